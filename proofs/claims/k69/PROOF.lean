import PyProof.Rows.All
import Wide.All
import OpenK.AllK
import Wide.FinOn
import HandS.ForMost
import HandS.Exc
import HandS.TryOnly
import HandS.ExcOwn
import HandS.WordsExc
import HandS.Small
import PyProof.NeKinds
import PyProof.EqKinds
import KE.KEqNest
import HandS.RaiseMore
import HandS.IsInst
import HandS.TupAny
import HandS.More
import HandS.Finally
import HandS.HeadEnd
import HandS.EndBits
import PyProof.ReprRoads
import HandS.Defaults
import HandS.HeadHook2
import HandS.Style
import HandS.ExcInit
import HandS.ExcField
import HandS.Property
import HandS.HeadHook3
import HandS.OwnEq
import KE.GoesEnum
import HandS.Zip
import HandS.DictComp
import HandS.StrMore
import HandS.DeepEq
import HandS.Head0
import HandS.Head1
import HandS.Head2
import HandS.HeadHook1
import PySem.Challenge.RW_twolistings_k69_whole_cuts_at_any_charac
set_option Elab.async false
set_option linter.all false
set_option maxRecDepth 100000
set_option maxHeartbeats 4000000
/-! DL1: data, slots, the meaning of slots and heaps. -/
namespace DL
open PySem PySem.Spec L2

/-- a Python value as plain data -/
inductive D where
  | non | bl (b : Bool) | int (i : Int) | str (s : Str)
  | tup (l : List D) | lst (l : List D) | dct (l : List (D × D)) | ins (c : Str) (fs : List (Str × D))
  | scr (l : List Int)
  deriving Inhabited

def DKey : D → Key → Prop
  | .int i, .inl j => i = j
  | .str s, .inr t => s = t
  | _, _ => False

section
variable (K : PySem.W.Frag) (mg : Str → Option Value) (F : Hp)
mutual
def Rep : D → V → Prop
  | .non, v => v = .non
  | .bl b, v => v = .bl b
  | .int i, v => v = .int i
  | .str s, v => v = .str s
  | .tup ds, v => ∃ a xs, v = .ref a ∧ SqT K F a xs ∧ RepL ds xs
  | .lst ds, v => ∃ a xs, v = .ref a ∧ F a = some (.lst xs) ∧ RepL ds xs
  | .dct kvs, v => ∃ a hk, v = .ref a ∧ F a = some (.dK hk) ∧ RepK kvs hk
  | .ins c fs, v => ∃ a C dx vs, v = .ref a ∧ mg c = some (.ref C) ∧ F a = some (.ins C dx vs) ∧ RepF fs vs
  | .scr ns, v => ∃ a, v = .ref a ∧ SqL K F a (ns.map V.int)
def RepL : List D → List V → Prop
  | [], vs => vs = []
  | d :: ds, vs => ∃ v r, vs = v :: r ∧ Rep d v ∧ RepL ds r
def RepK : List (D × D) → List (Key × V) → Prop
  | [], hk => hk = []
  | (k, d) :: r, hk => ∃ kk v s, hk = (kk, v) :: s ∧ DKey k kk ∧ Rep d v ∧ RepK r s
def RepF : List (Str × D) → List (Str × V) → Prop
  | [], hk => hk = []
  | (k, d) :: r, hk => ∃ v s, hk = (k, v) :: s ∧ Rep d v ∧ RepF r s
end
end
section
variable {K : PySem.W.Frag} {mg : Str → Option Value} {F F' : Hp}
theorem sqT_mono (h : Same F F') {a : Addr} {xs : List V} (e : SqT K F a xs) : SqT K F' a xs := by
  rcases e with (e | ⟨o, e⟩) | e
  · exact .inl (.inl (h _ _ e))
  · exact .inl (.inr ⟨o, h _ _ e⟩)
  · exact .inr e
mutual
theorem Rep.mono (h : Same F F') : ∀ {d : D} {v : V}, Rep K mg F d v → Rep K mg F' d v
  | .non, _, r => by unfold Rep at r ⊢; exact r
  | .bl _, _, r => by unfold Rep at r ⊢; exact r
  | .int _, _, r => by unfold Rep at r ⊢; exact r
  | .str _, _, r => by unfold Rep at r ⊢; exact r
  | .tup ds, _, r => by
    unfold Rep at r ⊢
    obtain ⟨a, xs, e, q, l⟩ := r
    exact ⟨a, xs, e, sqT_mono h q, RepL.mono h l⟩
  | .lst ds, _, r => by
    unfold Rep at r ⊢
    obtain ⟨a, xs, e, q, l⟩ := r
    exact ⟨a, xs, e, h _ _ q, RepL.mono h l⟩
  | .dct kvs, _, r => by
    unfold Rep at r ⊢
    obtain ⟨a, xs, e, q, l⟩ := r
    exact ⟨a, xs, e, h _ _ q, RepK.mono h l⟩
  | .ins c fs, _, r => by
    unfold Rep at r ⊢
    obtain ⟨a, C, dx, vs, e, m, q, l⟩ := r
    exact ⟨a, C, dx, vs, e, m, h _ _ q, RepF.mono h l⟩
  | .scr ns, _, r => by
    unfold Rep at r ⊢
    obtain ⟨a, e, q⟩ := r
    exact ⟨a, e, Same.seq h q⟩
theorem RepL.mono (h : Same F F') : ∀ {d : List D} {v : List V}, RepL K mg F d v → RepL K mg F' d v
  | [], _, r => by unfold RepL at r ⊢; exact r
  | d :: ds, _, r => by
    unfold RepL at r ⊢
    obtain ⟨v, s, e, q, l⟩ := r
    exact ⟨v, s, e, Rep.mono h q, RepL.mono h l⟩
theorem RepK.mono (h : Same F F') : ∀ {d : List (D × D)} {v : List (Key × V)}, RepK K mg F d v → RepK K mg F' d v
  | [], _, r => by unfold RepK at r ⊢; exact r
  | (k, d) :: ds, _, r => by
    unfold RepK at r ⊢
    obtain ⟨kk, v, s, e, q, l, m⟩ := r
    exact ⟨kk, v, s, e, q, Rep.mono h l, RepK.mono h m⟩
theorem RepF.mono (h : Same F F') : ∀ {d : List (Str × D)} {v : List (Str × V)}, RepF K mg F d v → RepF K mg F' d v
  | [], _, r => by unfold RepF at r ⊢; exact r
  | (k, d) :: ds, _, r => by
    unfold RepF at r ⊢
    obtain ⟨v, s, e, q, l⟩ := r
    exact ⟨v, s, e, Rep.mono h q, RepF.mono h l⟩
end
end

/-! ### slots -/
structure Exn where
  c : Str
  fs : List (Str × D)
  deriving Inhabited
/-- un: nothing is known; fz: frozen data; ow: an object of one's own; bo: a borrowed one; xn: the exception that is being handled -/
inductive Sl where
  | un | fz (d : D) | ow (d : D) | bo (d : D) | xn (e : Exn)
  deriving Inhabited
abbrev Env := List Sl
def Sl.held : Sl → Bool
  | .ow _ => true
  | .bo _ => true
  | _ => false
def Sl.data? : Sl → Option D
  | .fz d => some d
  | .ow d => some d
  | .bo d => some d
  | .un => none
  | .xn _ => none
/-- an expression's value: frozen data, what a slot holds, a new object of one's own -/
inductive AV where
  | fz (d : D) | sl (i : Nat) | ow (d : D)
  deriving Inhabited
inductive R (α : Type) where
  | ok (a : α) (ρ : Env) | ex (e : Exn) (ρ : Env) | no
abbrev M (α : Type) := Env → R α
def M.ret {α : Type} (a : α) : M α := fun ρ => .ok a ρ
def M.bnd {α β : Type} (m : M α) (f : α → M β) : M β := fun ρ => match m ρ with
  | .ok a ρ' => f a ρ'
  | .ex e ρ' => .ex e ρ'
  | .no => .no
def M.stuck {α : Type} : M α := fun _ => .no
def rd : AV → M D
  | .fz d => M.ret d
  | .ow d => M.ret d
  | .sl i => fun ρ => match (ρ[i]?).bind Sl.data? with
    | some d => .ok d ρ
    | none => .no
def frz : AV → M D
  | .fz d => M.ret d
  | .ow d => M.ret d
  | .sl i => fun ρ => match ρ[i]? with
    | some (.fz d) => .ok d ρ
    | some (.ow d) => .ok d (ρ.set i (.fz d))
    | _ => .no
def stab : AV → AV
  | .ow d => .fz d
  | a => a

/-- a call's ground: what stood at the entry, the frozen part there, the borrowed slots, the locked dicts -/
structure Bs where
  K : PySem.W.Frag
  mg : Str → Option Value
  H_0 : Hp
  F_0 : Hp
  B : List (Nat × Addr)
  L : List Addr
  P : List (Addr × HO)
  X : Option (Addr × Value × Option Addr)

/-- an exception of that class, with that dict -/
def ExD (K : PySem.W.Frag) (mg : Str → Option Value) (F : Hp) (e : Exn) (c : Value) (dd : Option Addr) : Prop :=
  ∃ C, mg e.c = some (.ref C) ∧ c = .ref C ∧ (e.fs = [] ∨ ∃ d vs, dd = some d ∧ F d = some (.xd vs) ∧ RepF K mg F e.fs vs)
theorem ExD.mono {K : PySem.W.Frag} {mg : Str → Option Value} {F F' : Hp} {e : Exn} {c : Value} {dd : Option Addr} (h : Same F F') : ExD K mg F e c dd → ExD K mg F' e c dd
  | ⟨C, m, ec, r⟩ => ⟨C, m, ec, r.imp id fun ⟨d, vs, ed, q, r⟩ => ⟨d, vs, ed, h _ _ q, r.mono h⟩⟩
def OwnAt (K : PySem.W.Frag) (mg : Str → Option Value) (F H : Hp) (a : Addr) : D → Prop
  | .lst ds => ∃ xs, H a = some (.lst xs) ∧ RepL K mg F ds xs
  | .dct kvs => ∃ hk, H a = some (.dK hk) ∧ RepK K mg F kvs hk
  | .ins c fs => ∃ C dx vs, mg c = some (.ref C) ∧ H a = some (.ins C dx vs) ∧ RepF K mg F fs vs
  | _ => False
theorem OwnAt.mono {K : PySem.W.Frag} {mg : Str → Option Value} {F F' H H' : Hp} {a : Addr} (hF : Same F F') (hH : ∀ o, H a = some o → H' a = some o) : ∀ {d : D}, OwnAt K mg F H a d → OwnAt K mg F' H' a d
  | .lst ds, ⟨xs, e, r⟩ => ⟨xs, hH _ e, r.mono hF⟩
  | .dct ds, ⟨xs, e, r⟩ => ⟨xs, hH _ e, r.mono hF⟩
  | .ins c ds, ⟨C, dx, xs, m, e, r⟩ => ⟨C, dx, xs, m, hH _ e, r.mono hF⟩
theorem OwnAt.some {K : PySem.W.Frag} {mg : Str → Option Value} {F H : Hp} {a : Addr} : ∀ {d : D}, OwnAt K mg F H a d → ∃ o, H a = .some o
  | .lst ds, ⟨xs, e, r⟩ => ⟨_, e⟩
  | .dct ds, ⟨xs, e, r⟩ => ⟨_, e⟩
  | .ins c ds, ⟨C, dx, xs, m, e, r⟩ => ⟨_, e⟩
/-- once its object is frozen -/
theorem OwnAt.rep {K : PySem.W.Frag} {mg : Str → Option Value} {F F' H : Hp} {a : Addr} (hF : Same F F') (hH : F' a = H a) : ∀ {d : D}, OwnAt K mg F H a d → Rep K mg F' d (.ref a)
  | .lst ds, ⟨xs, e, r⟩ => by unfold Rep; exact ⟨a, xs, rfl, hH.trans e, r.mono hF⟩
  | .dct ds, ⟨xs, e, r⟩ => by unfold Rep; exact ⟨a, xs, rfl, hH.trans e, r.mono hF⟩
  | .ins c ds, ⟨C, dx, xs, m, e, r⟩ => by unfold Rep; exact ⟨a, C, dx, xs, rfl, m, hH.trans e, r.mono hF⟩
/-- what may be read as data -/
def RepD (K : PySem.W.Frag) (mg : Str → Option Value) (F H : Hp) (d : D) (v : V) : Prop := Rep K mg F d v ∨ ∃ a, v = .ref a ∧ OwnAt K mg F H a d

/-- the frozen part lies in the heap (a dict may be locked) -/
def Sub (F H : Hp) : Prop := ∀ a o, F a = some o → H a = some o ∨ ∃ ob kvs, o = .dK kvs ∧ H a = some (.frz ob o)
def SlOk (b : Bs) (F H : Hp) : Sl → Option V → Prop
  | .un, _ => True
  | .fz d, x => ∃ v, x = some v ∧ Rep b.K b.mg F d v
  | .ow d, x => ∃ a, x = some (.ref a) ∧ F a = none ∧ b.H_0 a = none ∧ OwnAt b.K b.mg F H a d
  | .bo d, x => ∃ a, x = some (.ref a) ∧ F a = none ∧ a ∈ b.B.map (·.2) ∧ OwnAt b.K b.mg F H a d
  | .xn e, x => ∃ a c dd, b.X = some (a, c, dd) ∧ x = some (.ref a) ∧ ExD b.K b.mg F e c dd
/-- apart from what the slots hold -/
def Apart (ρ : Env) (σ : St) (a : Addr) : Prop := ∀ (j : Nat) (s : Sl), ρ[j]? = some s → s.held = true → σ[j]? ≠ some (some (.ref a))
structure Ok (b : Bs) (ρ : Env) (F H : Hp) (σ : St) : Prop where
  sub : Sub F H
  old : ∀ a o, b.H_0 a = some o → a ∉ b.B.map (·.2) → H a = some o ∨ (a ∈ b.L ∧ ∃ ob, H a = some (.frz ob o))
  ext : Same b.F_0 F
  new : ∀ a o, F a = some o → b.F_0 a = some o ∨ b.H_0 a = none
  len : ρ.length = σ.length
  slot : ∀ (i : Nat) (s : Sl), ρ[i]? = some s → SlOk b F H s ((σ[i]?).getD none)
  sep : ∀ (i j : Nat) (s s' : Sl) (a : Addr), ρ[i]? = some s → ρ[j]? = some s' → s.held = true → s'.held = true → σ[i]? = some (some (.ref a)) → σ[j]? = some (some (.ref a)) → i = j
  bor : ∀ p ∈ b.B, σ[p.1]? = some (some (.ref p.2)) ∧ ∃ d, ρ[p.1]? = some (.bo d)
  prot : ∀ p ∈ b.P, H p.1 = some p.2 ∧ F p.1 = none ∧ Apart ρ σ p.1
def RepA (b : Bs) (F H : Hp) (σ : St) (ρ : Env) : AV → V → Prop
  | .fz d, v => Rep b.K b.mg F d v
  | .sl i, v => σ[i]? = some (some v)
  | .ow d, v => ∃ a, v = .ref a ∧ F a = none ∧ b.H_0 a = none ∧ OwnAt b.K b.mg F H a d ∧ Apart ρ σ a ∧ ∀ p ∈ b.P, p.1 ≠ a
end DL

namespace DL
open PySem PySem.Spec L2

theorem RepL.len {K : PySem.W.Frag} {mg : Str → Option Value} {F : Hp} : ∀ {ds : List D} {vs : List V}, RepL K mg F ds vs → ds.length = vs.length
  | [], _, r => by unfold RepL at r; rw [r]; rfl
  | d :: ds, _, r => by
    unfold RepL at r
    obtain ⟨v, s, rfl, _, q⟩ := r
    rw [List.length_cons, List.length_cons, RepL.len q]
theorem RepL.snoc {K : PySem.W.Frag} {mg : Str → Option Value} {F : Hp} {d : D} {v : V} (h : Rep K mg F d v) : ∀ {ds : List D} {vs : List V}, RepL K mg F ds vs → RepL K mg F (ds ++ [d]) (vs ++ [v])
  | [], _, r => by
    unfold RepL at r
    subst r
    show RepL K mg F [d] [v]
    unfold RepL
    refine ⟨v, [], rfl, h, ?_⟩
    unfold RepL
    rfl
  | c :: ds, _, r => by
    unfold RepL at r
    obtain ⟨u, s, rfl, q, l⟩ := r
    show RepL K mg F (c :: (ds ++ [d])) (u :: (s ++ [v]))
    unfold RepL
    exact ⟨u, s ++ [v], rfl, q, RepL.snoc h l⟩
section
variable {b : Bs} {ρ : Env} {F H F' H' : Hp} {σ : St}
theorem Ok.fresh_0 (k : Ok b ρ F H σ) {p : Addr} (h : H p = none) : b.H_0 p = none := by
  cases e : b.H_0 p with
  | none => rfl
  | some o =>
    exfalso
    by_cases hb : p ∈ b.B.map (·.2)
    · obtain ⟨q, hq, rfl⟩ := List.mem_map.mp hb
      obtain ⟨e1, d, e2⟩ := k.bor q hq
      have z := k.slot _ _ e2
      rw [e1] at z
      obtain ⟨a, ea, _, _, oa⟩ := z
      cases ea
      obtain ⟨o', e3⟩ := oa.some
      rw [h] at e3; cases e3
    · rcases k.old p o e hb with e3 | ⟨_, ob, e3⟩
      · rw [h] at e3; cases e3
      · rw [h] at e3; cases e3
theorem Ok.fresh_F (k : Ok b ρ F H σ) {p : Addr} (h : H p = none) : F p = none := by
  cases e : F p with
  | none => rfl
  | some o =>
    rcases k.sub p o e with z | ⟨ob, kvs, _, z⟩
    · rw [h] at z; cases z
    · rw [h] at z; cases z
theorem Ok.apart_new (k : Ok b ρ F H σ) {p : Addr} (h : H p = none) : Apart ρ σ p := by
  intro j s e hs q
  have z := k.slot j s e
  rw [q] at z
  cases s with
  | un => cases hs
  | xn e => cases hs
  | fz d => cases hs
  | ow d =>
    obtain ⟨a, ea, _, _, oa⟩ := z
    cases ea
    obtain ⟨o', e3⟩ := oa.some
    rw [h] at e3; cases e3
  | bo d =>
    obtain ⟨a, ea, _, _, oa⟩ := z
    cases ea
    obtain ⟨o', e3⟩ := oa.some
    rw [h] at e3; cases e3

/-- the heap grows: what stood stands -/
structure Grow (F H F' H' : Hp) : Prop where
  sub : Sub F' H'
  ext : Same F F'
  keep : Same H H'
  new : ∀ a o, F' a = some o → F a = some o ∨ H a = none
theorem Grow.refl (h : Sub F H) : Grow F H F H := ⟨h, Same.refl _, Same.refl _, fun _ _ e => .inl e⟩
theorem Same.upd {H : Hp} {p : Addr} {o : HO} (h : H p = none) : Same H (upd H p o) := fun a u e => by
  rw [upd_ne (ne_of_none e h)]; exact e
theorem Grow.frozen (s : Sub F H) {p : Addr} {o : HO} (h : H p = none) : Grow F H (upd F p o) (upd H p o) := by
  have hF : F p = none := by
    cases e : F p with
    | none => rfl
    | some o' =>
      rcases s p o' e with z | ⟨_, _, _, z⟩ <;> (rw [h] at z; cases z)
  refine ⟨fun a u e => ?_, Same.upd hF, Same.upd h, fun a u e => ?_⟩
  · by_cases ha : a = p
    · subst ha; rw [upd_same] at e ⊢; exact .inl e
    · rw [upd_ne ha] at e ⊢; exact s a u e
  · by_cases ha : a = p
    · subst ha; exact .inr h
    · rw [upd_ne ha] at e; exact .inl e
theorem Grow.owned (s : Sub F H) {p : Addr} {o : HO} (h : H p = none) : Grow F H F (upd H p o) := by
  refine ⟨fun a u e => ?_, Same.refl _, Same.upd h, fun a u e => .inl e⟩
  rcases s a u e with z | ⟨ob, kvs, e1, z⟩
  · exact .inl (Same.upd h _ _ z)
  · exact .inr ⟨ob, kvs, e1, Same.upd h _ _ z⟩
theorem SlOk.grow {s : Sl} {x : Option V} (z : SlOk b F H s x) (g : Grow F H F' H') : SlOk b F' H' s x := by
  cases s with
  | un => trivial
  | xn e => obtain ⟨a, c, dd, e1, e2, r⟩ := z; exact ⟨a, c, dd, e1, e2, r.mono g.ext⟩
  | fz d =>
    obtain ⟨v, e, r⟩ := z
    exact ⟨v, e, r.mono g.ext⟩
  | ow d =>
    obtain ⟨a, e, n, n0, oa⟩ := z
    refine ⟨a, e, ?_, n0, oa.mono g.ext fun o q => g.keep _ _ q⟩
    cases q : F' a with
    | none => rfl
    | some o =>
      obtain ⟨o', e'⟩ := oa.some
      rcases g.new a o q with y | y
      · rw [n] at y; cases y
      · rw [e'] at y; cases y
  | bo d =>
    obtain ⟨a, e, n, n0, oa⟩ := z
    refine ⟨a, e, ?_, n0, oa.mono g.ext fun o q => g.keep _ _ q⟩
    cases q : F' a with
    | none => rfl
    | some o =>
      obtain ⟨o', e'⟩ := oa.some
      rcases g.new a o q with y | y
      · rw [n] at y; cases y
      · rw [e'] at y; cases y
theorem Ok.grow (k : Ok b ρ F H σ) (g : Grow F H F' H') : Ok b ρ F' H' σ := by
  refine ⟨g.sub, fun a o e hb => ?_, k.ext.trans g.ext, fun a o e => ?_, k.len, fun i s e => (k.slot i s e).grow g, k.sep, k.bor, fun p hp => ?_⟩
  · rcases k.old a o e hb with z | ⟨l, ob, z⟩
    · exact .inl (g.keep _ _ z)
    · exact .inr ⟨l, ob, g.keep _ _ z⟩
  · rcases g.new a o e with z | z
    · exact k.new a o z
    · exact .inr (k.fresh_0 z)
  · obtain ⟨h1, h2, h3⟩ := k.prot p hp
    refine ⟨g.keep _ _ h1, ?_, h3⟩
    cases q : F' p.1 with
    | none => rfl
    | some o =>
      rcases g.new _ o q with y | y
      · rw [h2] at y; cases y
      · rw [h1] at y; cases y
theorem RepA.grow {av : AV} {v : V} (r : RepA b F H σ ρ av v) (g : Grow F H F' H') : RepA b F' H' σ ρ av v := by
  cases av with
  | fz d => exact Rep.mono g.ext r
  | sl i => exact r
  | ow d =>
    obtain ⟨a, e, n, n0, oa, ap⟩ := r
    refine ⟨a, e, ?_, n0, oa.mono g.ext fun o q => g.keep _ _ q, ap⟩
    cases q : F' a with
    | none => rfl
    | some o =>
      obtain ⟨o', e'⟩ := oa.some
      rcases g.new a o q with y | y
      · rw [n] at y; cases y
      · rw [e'] at y; cases y

/-- an own object is frozen -/
def thaw (F H : Hp) (a : Addr) : Hp := fun x => if x = a then H a else F x
theorem thaw_same {a : Addr} : thaw F H a a = H a := by unfold thaw; rw [if_pos rfl]
theorem thaw_ne {a x : Addr} (h : x ≠ a) : thaw F H a x = F x := by unfold thaw; rw [if_neg h]
theorem thaw_ext {a : Addr} (h : F a = none) : Same F (thaw F H a) := fun x o e => by
  rw [thaw_ne (ne_of_none e h)]; exact e
theorem thaw_sub {a : Addr} (s : Sub F H) : Sub (thaw F H a) H := fun x o e => by
  by_cases hx : x = a
  · subst hx; rw [thaw_same] at e; exact .inl e
  · rw [thaw_ne hx] at e; exact s x o e
theorem SlOk.thaw {a : Addr} {s : Sl} {x : Option V} (z : SlOk b F H s x) (hn : F a = none) (ha : s.held = true → x ≠ some (.ref a)) : SlOk b (thaw F H a) H s x := by
  cases s with
  | un => trivial
  | xn e => obtain ⟨a, c, dd, e1, e2, r⟩ := z; exact ⟨a, c, dd, e1, e2, r.mono (thaw_ext hn)⟩
  | fz d =>
    obtain ⟨v, e, r⟩ := z
    exact ⟨v, e, r.mono (thaw_ext hn)⟩
  | ow d =>
    obtain ⟨c, e, n, n0, oa⟩ := z
    have hc : c ≠ a := fun q => ha rfl (by rw [e, q])
    exact ⟨c, e, by rw [thaw_ne hc]; exact n, n0, oa.mono (thaw_ext hn) fun o q => q⟩
  | bo d =>
    obtain ⟨c, e, n, n0, oa⟩ := z
    have hc : c ≠ a := fun q => ha rfl (by rw [e, q])
    exact ⟨c, e, by rw [thaw_ne hc]; exact n, n0, oa.mono (thaw_ext hn) fun o q => q⟩
theorem getD_ref {x : Option (Option V)} {v : V} (h : x.getD none = some v) : x = some (some v) := by
  cases x with
  | none => cases h
  | some y => exact congrArg some h
/-- a new object that no slot holds is frozen -/
theorem Ok.freezeT (k : Ok b ρ F H σ) {d : D} {v : V} (r : RepA b F H σ ρ (.ow d) v) : ∃ F', Ok b ρ F' H σ ∧ Same F F' ∧ Rep b.K b.mg F' d v := by
  obtain ⟨a, rfl, n, n0, oa, ap⟩ := r
  refine ⟨thaw F H a, ⟨thaw_sub k.sub, k.old, k.ext.trans (thaw_ext n), fun x o e => ?_, k.len, fun i s e => (k.slot i s e).thaw n fun hs q => ap.1 i s e hs (getD_ref q), k.sep, k.bor, fun p hp => by rw [thaw_ne (ap.2 p hp)]; exact k.prot p hp⟩, thaw_ext n, oa.rep (thaw_ext n) thaw_same⟩
  by_cases hx : x = a
  · subst hx; exact .inr n0
  · rw [thaw_ne hx] at e; exact k.new x o e
/-- a value becomes one that stays -/
theorem Ok.stab (k : Ok b ρ F H σ) {av : AV} {v : V} (r : RepA b F H σ ρ av v) : ∃ F', Ok b ρ F' H σ ∧ Same F F' ∧ RepA b F' H σ ρ (stab av) v := by
  cases av with
  | fz d => exact ⟨F, k, Same.refl _, r⟩
  | sl i => exact ⟨F, k, Same.refl _, r⟩
  | ow d => exact k.freezeT r
theorem RepA.stays {av : AV} {v : V} {ρ' : Env} (r : RepA b F H σ ρ (DL.stab av) v) (h : Same F F') : RepA b F' H' σ ρ' (DL.stab av) v := by
  cases av with
  | fz d => exact Rep.mono h r
  | sl i => exact r
  | ow d => exact Rep.mono h r
/-- read -/
theorem Ok.read (k : Ok b ρ F H σ) {av : AV} {v : V} (r : RepA b F H σ ρ av v) {d : D} {ρ' : Env} (h : rd av ρ = .ok d ρ') : ρ' = ρ ∧ RepD b.K b.mg F H d v := by
  cases av with
  | fz x =>
    cases h
    exact ⟨rfl, .inl r⟩
  | ow x =>
    cases h
    obtain ⟨a, e, _, _, oa, _⟩ := r
    exact ⟨rfl, .inr ⟨a, e, oa⟩⟩
  | sl i =>
    dsimp only [rd] at h
    cases e : ρ[i]? with
    | none => rw [e] at h; cases h
    | some s =>
      rw [e] at h
      have z := k.slot i s e
      have q : σ[i]? = some (some v) := r
      rw [q] at z
      cases s with
      | xn x => cases h
      | un => cases h
      | fz x =>
        cases h
        obtain ⟨u, eu, ru⟩ := z
        cases eu
        exact ⟨rfl, .inl ru⟩
      | ow x =>
        cases h
        obtain ⟨a, eu, _, _, oa⟩ := z
        cases eu
        exact ⟨rfl, .inr ⟨a, rfl, oa⟩⟩
      | bo x =>
        cases h
        obtain ⟨a, eu, _, _, oa⟩ := z
        cases eu
        exact ⟨rfl, .inr ⟨a, rfl, oa⟩⟩
theorem set_get {α : Type} {l : List α} {i j : Nat} {x y : α} (h : (l.set i x)[j]? = some y) : (j = i ∧ i < l.length ∧ y = x) ∨ (j ≠ i ∧ l[j]? = some y) := by
  by_cases e : j = i
  · subst e
    rw [List.getElem?_set] at h
    simp only [if_true] at h
    split at h
    · cases h; exact .inl ⟨rfl, by assumption, rfl⟩
    · cases h
  · rw [List.getElem?_set_ne (Ne.symm e)] at h
    exact .inr ⟨e, h⟩
/-- what is read for good: the slot is frozen -/
theorem Ok.froze (k : Ok b ρ F H σ) {av : AV} {v : V} (r : RepA b F H σ ρ av v) {d : D} {ρ' : Env} (h : frz av ρ = .ok d ρ') : ∃ F', Ok b ρ' F' H σ ∧ Same F F' ∧ Rep b.K b.mg F' d v := by
  cases av with
  | fz x =>
    cases h
    exact ⟨F, k, Same.refl _, r⟩
  | ow x =>
    cases h
    exact k.freezeT r
  | sl i =>
    dsimp only [frz] at h
    cases e : ρ[i]? with
    | none => rw [e] at h; cases h
    | some s =>
      rw [e] at h
      have z := k.slot i s e
      have q : σ[i]? = some (some v) := r
      rw [q] at z
      cases s with
      | xn x => cases h
      | un => cases h
      | bo x => cases h
      | fz x =>
        cases h
        obtain ⟨u, eu, ru⟩ := z
        cases eu
        exact ⟨F, k, Same.refl _, ru⟩
      | ow x =>
        cases h
        obtain ⟨a, eu, n, n0, oa⟩ := z
        cases eu
        refine ⟨thaw F H a, ⟨thaw_sub k.sub, k.old, k.ext.trans (thaw_ext n), fun x o e => ?_, by rw [List.length_set]; exact k.len, fun j s ej => ?_, fun j l s s' c ej el hs hs' => ?_, fun p hp => ?_, fun p hp => ?_⟩, thaw_ext n, oa.rep (thaw_ext n) thaw_same⟩
        · by_cases hx : x = a
          · subst hx; exact .inr n0
          · rw [thaw_ne hx] at e; exact k.new x o e
        · rcases set_get ej with ⟨rfl, _, rfl⟩ | ⟨hj, ej'⟩
          · rw [q]
            exact ⟨_, rfl, oa.rep (thaw_ext n) thaw_same⟩
          · exact (k.slot j s ej').thaw n fun hs w => hj (k.sep j i s _ a ej' e hs rfl (getD_ref w) q)
        · rcases set_get ej with ⟨rfl, _, rfl⟩ | ⟨hj, ej'⟩
          · cases hs
          · rcases set_get el with ⟨rfl, _, rfl⟩ | ⟨hl, el'⟩
            · cases hs'
            · exact k.sep j l s s' c ej' el' hs hs'
        · obtain ⟨e1, d', e2⟩ := k.bor p hp
          have hne : p.1 ≠ i := fun w => by rw [w, e] at e2; cases e2
          exact ⟨e1, d', by rw [List.getElem?_set_ne (Ne.symm hne)]; exact e2⟩
        · obtain ⟨h1, h2, h3⟩ := k.prot p hp
          have hpa : p.1 ≠ a := fun w => h3 i _ e rfl (by rw [w]; exact q)
          refine ⟨h1, by rw [thaw_ne hpa]; exact h2, fun j s ej hs => ?_⟩
          rcases set_get ej with ⟨rfl, _, rfl⟩ | ⟨_, ej'⟩
          · cases hs
          · exact h3 j s ej' hs
theorem Ok.prot_new (k : Ok b ρ F H σ) {a : Addr} (h : H a = none) : ∀ p ∈ b.P, p.1 ≠ a := fun p hp e => by
  have := (k.prot p hp).1
  rw [e, h] at this; cases this
end

/-! ### readings over data -/
/-- an exception as data -/
def ExR (b : Bs) (F : Hp) (e : Exn) (c : Value) (dd : Option Addr) : Prop :=
  ∃ C, b.mg e.c = some (.ref C) ∧ c = .ref C ∧ (e.fs = [] ∨ ∃ d vs, dd = some d ∧ F d = some (.xd vs) ∧ RepF b.K b.mg F e.fs vs)
def After {α : Type} (b : Bs) (W : WX) (σ : St) (F : Hp) (r : R α) (Q : α → Env → Hp → Hp → Prop) : Prop :=
  match r with
  | .ok a ρ' => ∀ F' H', Ok b ρ' F' H' σ → Same F F' → Q a ρ' F' H'
  | .ex e ρ' => ∀ c dd F' H', Ok b ρ' F' H' σ → Same F F' → ExR b F' e c dd → W c dd σ H'
  | .no => False
theorem After.bnd {α β : Type} {b : Bs} {W : WX} {σ : St} {F : Hp} {ρ : Env} {m : M α} {f : α → M β} {Q : β → Env → Hp → Hp → Prop} (h : After b W σ F (m.bnd f ρ) Q) :
    After b W σ F (m ρ) fun a ρ' F' H' => Ok b ρ' F' H' σ ∧ After b W σ F' (f a ρ') Q := by
  unfold M.bnd at h
  cases e : m ρ with
  | no => rw [e] at h; exact h
  | ex x ρ' => rw [e] at h; exact h
  | ok a ρ' =>
    rw [e] at h
    intro F' H' k s
    refine ⟨k, ?_⟩
    have h' : After b W σ F (f a ρ') Q := h
    cases e2 : f a ρ' with
    | no => rw [e2] at h'; exact h'
    | ex x ρ2 =>
      rw [e2] at h'
      exact fun c dd F2 H2 k2 s2 => h' c dd F2 H2 k2 (s.trans s2)
    | ok a2 ρ2 =>
      rw [e2] at h'
      exact fun F2 H2 k2 s2 => h' F2 H2 k2 (s.trans s2)
theorem After.imp {α : Type} {b : Bs} {W : WX} {σ : St} {F : Hp} {r : R α} {Q Q' : α → Env → Hp → Hp → Prop} (h : After b W σ F r Q) (i : ∀ a ρ' F' H', Ok b ρ' F' H' σ → Same F F' → Q a ρ' F' H' → Q' a ρ' F' H') : After b W σ F r Q' := by
  cases r with
  | no => exact h
  | ex x ρ' => exact h
  | ok a ρ' => exact fun F' H' k s => i a ρ' F' H' k s (h F' H' k s)
/-- from a later frozen part on -/
theorem After.later {α : Type} {b : Bs} {W : WX} {σ : St} {F F1 : Hp} {r : R α} {Q : α → Env → Hp → Hp → Prop} (h : After b W σ F r Q) (s : Same F F1) : After b W σ F1 r Q := by
  cases r with
  | no => exact h
  | ex x ρ' => exact fun c dd F' H' k s' => h c dd F' H' k (s.trans s')
  | ok a ρ' => exact fun F' H' k s' => h F' H' k (s.trans s')

def tE (b : Bs) (W : WX) (φ : M AV) : TE := fun σ H Q => ∃ F ρ, Ok b ρ F H σ ∧ After b W σ F (φ ρ) fun av ρ' F' H' => ∀ v, RepA b F' H' σ ρ' av v → Q v H'
def tT (b : Bs) (W : WX) (φ : M Bool) : TT := fun σ H Q => ∃ F ρ, Ok b ρ F H σ ∧ After b W σ F (φ ρ) fun k ρ' F' H' => Q k H'
/-- arguments: each one stays -/
inductive RepAs (b : Bs) (F H : Hp) (σ : St) (ρ : Env) : List AV → List V → Prop
  | nil : RepAs b F H σ ρ [] []
  | cons {av : AV} {avs : List AV} {v : V} {vs : List V} : RepA b F H σ ρ (stab av) v → RepAs b F H σ ρ avs vs → RepAs b F H σ ρ (stab av :: avs) (v :: vs)
def tAs (b : Bs) (W : WX) (φ : M (List AV)) : TA := fun σ H Q => ∃ F ρ, Ok b ρ F H σ ∧ After b W σ F (φ ρ) fun avs ρ' F' H' => ∀ vs, RepAs b F' H' σ ρ' avs vs → Q vs H'
theorem weakE {X : Cx} {e : Expr} {t t' : TE} (h : PE X e t) (i : ∀ σ H Q, t' σ H Q → t σ H Q) : PE X e t' := ⟨fun pins s σ H Q I q => h.run pins s σ H Q I (i _ _ _ q)⟩
theorem weakT {X : Cx} {e : Expr} {t t' : TT} (h : PT X e t) (i : ∀ σ H Q, t' σ H Q → t σ H Q) : PT X e t' := ⟨fun pins s σ H Q I q => h.run pins s σ H Q I (i _ _ _ q)⟩
theorem weakA {X : Cx} {e : List Expr} {t t' : TA} (h : PA X e t) (i : ∀ σ H Q, t' σ H Q → t σ H Q) : PA X e t' := ⟨fun pos pins s σ H Q I q => h.run pos pins s σ H Q I (i _ _ _ q)⟩
theorem weakS {X : Cx} {e : Stmt} {t t' : TS} (h : PS X e t) (i : ∀ D σ H, t' D σ H → t D σ H) : PS X e t' := ⟨fun pins s σ H D I q => h.run pins s σ H D I (i _ _ _ q)⟩
theorem weakSs {X : Cx} {e : List Stmt} {t t' : TS} (h : PSs X e t) (i : ∀ D σ H, t' D σ H → t D σ H) : PSs X e t' := ⟨fun pins s σ H D I q => h.run pins s σ H D I (i _ _ _ q)⟩
end DL

namespace DL
open PySem PySem.Spec L2

structure Fit (X : Cx) (b : Bs) : Prop where
  K : b.K = X.K
  mg : b.mg = X.mg

/-! ### expressions -/
def lift {α : Type} (o : Option α) : M α := match o with
  | some a => M.ret a
  | none => M.stuck
def mVar (i : Nat) : M AV := fun ρ => match ρ[i]? with
  | some .un => .no
  | some _ => .ok (.sl i) ρ
  | none => .no
def mC (d : D) : M AV := M.ret (.fz d)
def rdAll : List AV → M (List D)
  | [] => M.ret []
  | a :: r => (rd a).bnd fun d => (rdAll r).bnd fun ds => M.ret (d :: ds)
def frzAll : List AV → M (List D)
  | [] => M.ret []
  | a :: r => (frz a).bnd fun d => (frzAll r).bnd fun ds => M.ret (d :: ds)
def mNil : M (List AV) := M.ret []
def mCons (φ : M AV) (ψ : M (List AV)) : M (List AV) := φ.bnd fun a => ψ.bnd fun r => M.ret (stab a :: r)
def mOp (f : D → D → Option AV) (φ ψ : M AV) : M AV := φ.bnd fun a => ψ.bnd fun c => (rd (stab a)).bnd fun x => (rd (stab c)).bnd fun y => lift (f x y)
def mCall (f : List D → Option AV) (φ : M (List AV)) : M AV := φ.bnd fun avs => (rdAll avs).bnd fun ds => lift (f ds)
def mUn (f : D → Option AV) (φ : M AV) : M AV := φ.bnd fun a => (rd (stab a)).bnd fun x => lift (f x)
def mTup (φ : M (List AV)) : M AV := φ.bnd fun avs => (frzAll avs).bnd fun ds => if ds.length ≤ sizeLine then M.ret (.fz (.tup ds)) else M.stuck
def mLst (φ : M (List AV)) : M AV := φ.bnd fun avs => (frzAll avs).bnd fun ds => if ds.length ≤ sizeLine then M.ret (.ow (.lst ds)) else M.stuck
def isBl : D → M Bool
  | .bl k => M.ret k
  | _ => M.stuck
def mTest (φ : M AV) : M Bool := φ.bnd fun a => (rd a).bnd isBl
def mNot (φ : M Bool) : M Bool := φ.bnd fun k => M.ret (!k)
def mIf {α : Type} (t : M Bool) (φ ψ : M α) : M α := t.bnd fun k => if k then φ else ψ
def mBl (t : M Bool) : M AV := t.bnd fun k => M.ret (.fz (.bl k))
def mAndV (φ ψ : M AV) : M AV := φ.bnd fun a => (rd a).bnd fun d => match d with
  | .bl true => ψ
  | .bl false => M.ret (.fz (.bl false))
  | _ => M.stuck
def mOrV (φ ψ : M AV) : M AV := φ.bnd fun a => (rd a).bnd fun d => match d with
  | .bl false => ψ
  | .bl true => M.ret (.fz (.bl true))
  | _ => M.stuck

theorem M.bnd_assoc {α β γ : Type} (m : M α) (f : α → M β) (g : β → M γ) : (m.bnd f).bnd g = m.bnd fun a => (f a).bnd g := by
  funext ρ
  unfold M.bnd
  cases m ρ <;> rfl
theorem M.ret_bnd {α β : Type} (a : α) (f : α → M β) : (M.ret a).bnd f = f a := rfl
/-- what a pure operation on data hands on -/
def Gives (b : Bs) (ρ : Env) (σ : St) (F : Hp) (o : Option AV) (Q : VK) : Prop := match o with
  | some av => ∀ v F' H', Ok b ρ F' H' σ → Same F F' → RepA b F' H' σ ρ av v → Q v H'
  | none => False
/-- a state in which some values are read as data -/
structure At (b : Bs) (F H : Hp) (σ : St) (ρ : Env) : Prop where
  ok : Ok b ρ F H σ
abbrev Rd1 (b : Bs) (F H : Hp) (d : D) (v : V) : Prop := RepD b.K b.mg F H d v
def rD2 (b : Bs) (f : D → D → Option AV) : R2 := fun x y H Q => ∃ F σ ρ dx dy, Ok b ρ F H σ ∧ Rd1 b F H dx x ∧ Rd1 b F H dy y ∧ Gives b ρ σ F (f dx dy) Q
def rD1 (b : Bs) (f : D → Option AV) : V → Hp → VK → Prop := fun x H Q => ∃ F σ ρ dx, Ok b ρ F H σ ∧ Rd1 b F H dx x ∧ Gives b ρ σ F (f dx) Q
inductive RdL (b : Bs) (F H : Hp) : List D → List V → Prop
  | nil : RdL b F H [] []
  | cons {d : D} {ds : List D} {v : V} {vs : List V} : Rd1 b F H d v → RdL b F H ds vs → RdL b F H (d :: ds) (v :: vs)
def rDs (b : Bs) (f : List D → Option AV) : List V → Hp → VK → Prop := fun xs H Q => ∃ F σ ρ ds, Ok b ρ F H σ ∧ RdL b F H ds xs ∧ Gives b ρ σ F (f ds) Q
def rDm (b : Bs) (f : D → List D → Option AV) : V → List V → Hp → VK → Prop := fun x xs H Q => ∃ F σ ρ d ds, Ok b ρ F H σ ∧ Rd1 b F H d x ∧ RdL b F H ds xs ∧ Gives b ρ σ F (f d ds) Q
abbrev OpD (X : Cx) (g : Value → Value → Sem Value) (f : D → D → Option AV) : Prop := ∀ b, Fit X b → OpR X g (rD2 b f)
abbrev UnD (X : Cx) (g : Value → Sem Value) (f : D → Option AV) : Prop := ∀ b, Fit X b → UnR X g (rD1 b f)
abbrev CallD (X : Cx) (v : Value) (f : List D → Option AV) : Prop := ∀ b, Fit X b → CallR X v (rDs b f)
abbrev MtD (X : Cx) (id : String) (f : D → List D → Option AV) : Prop := ∀ b, Fit X b → MtR X id (rDm b f)

section
variable {b : Bs} {W : WX} {σ : St} {ρ : Env} {F H : Hp}
theorem After.gives {o : Option AV} {Q : VK} (h : After b W σ F (lift o ρ) fun av ρ' F' H' => ∀ v, RepA b F' H' σ ρ' av v → Q v H') : Gives b ρ σ F o Q := by
  cases o with
  | none => exact h
  | some av => exact fun v F' H' k s r => h F' H' k s v r
/-- read one value, go on -/
theorem After.read {α : Type} {av : AV} {v : V} {f : D → M α} {Q : α → Env → Hp → Hp → Prop} (k : Ok b ρ F H σ) (r : RepA b F H σ ρ av v) (h : After b W σ F ((rd av).bnd f ρ) Q) : ∃ d, Rd1 b F H d v ∧ After b W σ F (f d ρ) Q := by
  unfold M.bnd at h
  cases e : rd av ρ with
  | no => rw [e] at h; exact h.elim
  | ex x ρ' =>
    cases av with
    | fz d => cases e
    | ow d => cases e
    | sl i =>
      dsimp only [rd] at e
      split at e <;> cases e
  | ok d ρ' =>
    rw [e] at h
    obtain ⟨rfl, q⟩ := k.read r e
    exact ⟨d, q, h⟩
theorem After.readAll {α : Type} {avs : List AV} {vs : List V} (k : Ok b ρ F H σ) (r : RepAs b F H σ ρ avs vs) : ∀ {f : List D → M α} {Q : α → Env → Hp → Hp → Prop}, After b W σ F ((rdAll avs).bnd f ρ) Q → ∃ ds, RdL b F H ds vs ∧ After b W σ F (f ds ρ) Q := by
  induction r with
  | nil => exact fun h => ⟨[], .nil, h⟩
  | @cons av avs v vs r1 r2 ih =>
    intro f Q h
    have e : (rdAll (stab av :: avs)).bnd f = (rd (stab av)).bnd fun d => (rdAll avs).bnd fun ds => f (d :: ds) := by
      show ((rd (stab av)).bnd fun d => (rdAll avs).bnd fun ds => M.ret (d :: ds)).bnd f = _
      rw [M.bnd_assoc]
      exact congrArg _ (funext fun d => by rw [M.bnd_assoc]; rfl)
    rw [e] at h
    obtain ⟨d, q1, h1⟩ := After.read k r1 h
    obtain ⟨ds, q2, h2⟩ := ih h1
    exact ⟨d :: ds, .cons q1 q2, h2⟩
theorem After.frozeAll {α : Type} {avs : List AV} {vs : List V} (r : RepAs b F H σ ρ avs vs) : ∀ {ρ' : Env} {F' : Hp} {f : List D → M α} {Q : α → Env → Hp → Hp → Prop}, Ok b ρ' F' H σ → Same F F' → After b W σ F' ((frzAll avs).bnd f ρ') Q →
    ∃ ds ρ2 F2, Ok b ρ2 F2 H σ ∧ Same F' F2 ∧ RepL b.K b.mg F2 ds vs ∧ After b W σ F2 (f ds ρ2) Q := by
  induction r with
  | nil => exact fun k s h => ⟨[], _, _, k, Same.refl _, by unfold RepL; rfl, h⟩
  | @cons av avs v vs r1 r2 ih =>
    intro ρ' F' f Q k s h
    have e : (frzAll (stab av :: avs)).bnd f = (frz (stab av)).bnd fun d => (frzAll avs).bnd fun ds => f (d :: ds) := by
      show ((frz (stab av)).bnd fun d => (frzAll avs).bnd fun ds => M.ret (d :: ds)).bnd f = _
      rw [M.bnd_assoc]
      exact congrArg _ (funext fun d => by rw [M.bnd_assoc]; rfl)
    rw [e] at h
    have r1' : RepA b F' H σ ρ' (stab av) v := r1.stays s
    unfold M.bnd at h
    cases e1 : frz (stab av) ρ' with
    | no => rw [e1] at h; exact h.elim
    | ex x ρ2 =>
      cases av with
      | fz d => cases e1
      | ow d => cases e1
      | sl i =>
        dsimp only [stab, frz] at e1
        split at e1 <;> cases e1
    | ok d ρ2 =>
      rw [e1] at h
      obtain ⟨F2, k2, s2, q2⟩ := k.froze r1' e1
      obtain ⟨ds, ρ3, F3, k3, s3, q3, h3⟩ := ih k2 (s.trans s2) (After.later (show After b W σ F' ((DL.frzAll avs).bnd (fun ds => f (d :: ds)) ρ2) Q from h) s2)
      refine ⟨d :: ds, ρ3, F3, k3, s2.trans s3, ?_, h3⟩
      unfold RepL
      exact ⟨v, vs, rfl, q2.mono s3, q3⟩
/-- freeze one value, go on -/
theorem After.froze {α : Type} {av : AV} {v : V} {f : D → M α} {Q : α → Env → Hp → Hp → Prop} (k : Ok b ρ F H σ) (r : RepA b F H σ ρ av v) (h : After b W σ F ((frz av).bnd f ρ) Q) :
    ∃ d ρ2 F2, Ok b ρ2 F2 H σ ∧ Same F F2 ∧ Rep b.K b.mg F2 d v ∧ After b W σ F2 (f d ρ2) Q := by
  unfold M.bnd at h
  cases e1 : frz av ρ with
  | no => rw [e1] at h; exact h.elim
  | ex x ρ2 =>
    cases av with
    | fz d => cases e1
    | ow d => cases e1
    | sl i =>
      dsimp only [frz] at e1
      split at e1 <;> cases e1
  | ok d ρ2 =>
    rw [e1] at h
    obtain ⟨F2, k2, s2, q2⟩ := k.froze r e1
    exact ⟨d, ρ2, F2, k2, s2, q2, After.later (show After b W σ F (f d ρ2) Q from h) s2⟩
end

/-! ### the rules for expressions -/
section
variable {X : Cx} {b : Bs} {W : WX} {pos : Pos}
/-- e, then the rest -/
theorem runE {α : Type} {φ : M AV} {f : AV → M α} {σ : St} {H F : Hp} {ρ : Env} {Q : α → Env → Hp → Hp → Prop} {R : V → Hp → Prop} (k : Ok b ρ F H σ) (h : After b W σ F (φ.bnd f ρ) Q)
    (i : ∀ av v ρ1 F1 H1, Ok b ρ1 F1 H1 σ → Same F F1 → RepA b F1 H1 σ ρ1 av v → After b W σ F1 (f av ρ1) Q → R v H1) : tE b W φ σ H R :=
  ⟨F, ρ, k, h.bnd.imp fun av ρ' F' H' k' s q v r => i av v ρ' F' H' k' s r q.2⟩
theorem runT {α : Type} {φ : M Bool} {f : Bool → M α} {σ : St} {H F : Hp} {ρ : Env} {Q : α → Env → Hp → Hp → Prop} {R : Bool → Hp → Prop} (k : Ok b ρ F H σ) (h : After b W σ F (φ.bnd f ρ) Q)
    (i : ∀ c ρ1 F1 H1, Ok b ρ1 F1 H1 σ → Same F F1 → After b W σ F1 (f c ρ1) Q → R c H1) : tT b W φ σ H R :=
  ⟨F, ρ, k, h.bnd.imp fun av ρ' F' H' k' s q => i av ρ' F' H' k' s q.2⟩
theorem runA {α : Type} {φ : M (List AV)} {f : List AV → M α} {σ : St} {H F : Hp} {ρ : Env} {Q : α → Env → Hp → Hp → Prop} {R : List V → Hp → Prop} (k : Ok b ρ F H σ) (h : After b W σ F (φ.bnd f ρ) Q)
    (i : ∀ avs vs ρ1 F1 H1, Ok b ρ1 F1 H1 σ → Same F F1 → RepAs b F1 H1 σ ρ1 avs vs → After b W σ F1 (f avs ρ1) Q → R vs H1) : tAs b W φ σ H R :=
  ⟨F, ρ, k, h.bnd.imp fun av ρ' F' H' k' s q v r => i av v ρ' F' H' k' s r q.2⟩
theorem rd_bl {d : D} {v : V} {σ : St} {F H : Hp} {ρ : Env} {Q : Bool → Env → Hp → Hp → Prop} (r : Rd1 b F H d v) (h : After b W σ F (isBl d ρ) Q) : ∃ c, v = .bl c ∧ ∀ F' H', Ok b ρ F' H' σ → Same F F' → Q c ρ F' H' := by
  cases d with
  | bl c =>
    rcases r with r | ⟨a, _, oa⟩
    · unfold Rep at r
      exact ⟨c, r, h⟩
    · exact oa.elim
  | _ => exact h.elim
theorem de_var {i : Nat} {x : Str} (he : PE X (.Name x pos) (tVar i)) : PE X (.Name x pos) (tE b W (mVar i)) := by
  refine weakE he fun σ H Q h => ?_
  obtain ⟨F, ρ, k, a⟩ := h
  unfold mVar at a
  cases e : ρ[i]? with
  | none => rw [e] at a; exact a.elim
  | some s =>
    rw [e] at a
    have z := k.slot i s e
    cases s with
    | xn d => obtain ⟨c, u, dd, _, eu, _⟩ := z; exact ⟨_, getD_ref eu, a F H k (Same.refl _) _ (getD_ref eu)⟩
    | un => exact a.elim
    | fz d =>
      obtain ⟨v, ev, _⟩ := z
      exact ⟨v, getD_ref ev, a F H k (Same.refl _) v (getD_ref ev)⟩
    | ow d =>
      obtain ⟨v, ev, _⟩ := z
      exact ⟨_, getD_ref ev, a F H k (Same.refl _) _ (getD_ref ev)⟩
    | bo d =>
      obtain ⟨v, ev, _⟩ := z
      exact ⟨_, getD_ref ev, a F H k (Same.refl _) _ (getD_ref ev)⟩
/-- a constant -/
theorem de_c {e : Expr} {v : V} {d : D} (he : PE X e (tC v)) (hr : ∀ F, Rep b.K b.mg F d v) : PE X e (tE b W (mC d)) := by
  refine weakE he fun σ H Q h => ?_
  obtain ⟨F, ρ, k, a⟩ := h
  exact a F H k (Same.refl _) v (hr F)
theorem de_int {i : Int} {j : Nat} : PE X (.Constant (.int i) j pos) (tE b W (mC (.int i))) := de_c pe_int fun F => by unfold Rep; rfl
theorem de_bl {k : Bool} {j : Nat} : PE X (.Constant (.bool k) j pos) (tE b W (mC (.bl k))) := de_c pe_bl fun F => by unfold Rep; rfl
theorem de_non {j : Nat} : PE X (.Constant .none j pos) (tE b W (mC .non)) := de_c pe_non fun F => by unfold Rep; rfl
theorem de_str {x : Str} {j : Nat} : PE X (.Constant (.str x) j pos) (tE b W (mC (.str x))) := de_c pe_str fun F => by unfold Rep; rfl
/-- a global constant whose data stands -/
def GloD (X : Cx) (x : Str) (d : D) : Prop := ∃ u v, X.mg x = some u ∧ RelV v u ∧ ∀ F, Rep X.K X.mg F d v
theorem de_glob {x : Str} {d : D} (fit : Fit X b) (g : GloD X x d) (hg : Gl X x) (hd : (x == ("__debug__" : Str)) = false := by decide) : PE X (.Name x pos) (tE b W (mC d)) := by
  obtain ⟨u, v, h1, h2, h3⟩ := g
  exact de_c (pe_glob hg h1 h2 hd) fun F => by rw [fit.K, fit.mg]; exact h3 F
theorem run2 {f : D → D → Option AV} {φ ψ : M AV} {σ : St} {F H : Hp} {ρ : Env} {Q : VK} (k : Ok b ρ F H σ) (h : After b W σ F (mOp f φ ψ ρ) fun av ρ' F' H' => ∀ v, RepA b F' H' σ ρ' av v → Q v H') :
    tE b W φ σ H fun x H1 => tE b W ψ σ H1 fun y H2 => rD2 b f x y H2 Q := by
  refine runE k h fun av x ρ1 F1 H1 k1 s1 r1 h1 => ?_
  obtain ⟨F2, k2, s2, r2⟩ := k1.stab r1
  refine runE k2 (h1.later s2) fun cv y ρ3 F3 H3 k3 s3 r3 h3 => ?_
  obtain ⟨F4, k4, s4, r4⟩ := k3.stab r3
  have r2' : RepA b F4 H3 σ ρ3 (stab av) x := r2.stays (s3.trans s4)
  obtain ⟨dx, q1, h5⟩ := (h3.later s4).read k4 r2'
  obtain ⟨dy, q2, h6⟩ := h5.read k4 r4
  exact ⟨F4, σ, ρ3, dx, dy, k4, q1, q2, h6.gives⟩
/-- .. as a test -/
theorem run2T {f : D → D → Option AV} {φ ψ : M AV} {σ : St} {F H : Hp} {ρ : Env} {Q : Bool → Hp → Prop} (k : Ok b ρ F H σ) (h : After b W σ F (mTest (mOp f φ ψ) ρ) fun c ρ' F' H' => Q c H') :
    tE b W φ σ H fun x H1 => tE b W ψ σ H1 fun y H2 => rD2 b f x y H2 fun z H3 => ∃ c, z = .bl c ∧ Q c H3 := by
  refine run2 k (h.bnd.imp fun av ρ' F' H' k' s' ⟨_, q⟩ v r => ?_)
  obtain ⟨d, q1, h2⟩ := q.read k' r
  obtain ⟨c, rfl, h3⟩ := rd_bl q1 h2
  exact ⟨c, rfl, h3 F' H' k' (Same.refl _)⟩
theorem de_op {a c : Expr} {op : Operator} {f : D → D → Option AV} {φ ψ : M AV} (fit : Fit X b) (ho : OpD X (binaryOp op) f) (ha : PE X a (tE b W φ)) (hc : PE X c (tE b W ψ)) : PE X (.BinOp a op c pos) (tE b W (mOp f φ ψ)) := by
  refine weakE (pe_op (ho b fit) ha hc) fun σ H Q ⟨F, ρ, k, h⟩ => ?_
  exact run2 k h
theorem de_cmp {a c : Expr} {op : CmpOp} {f : D → D → Option AV} {φ ψ : M AV} (fit : Fit X b) (ho : OpD X (compareOp op) f) (ha : PE X a (tE b W φ)) (hc : PE X c (tE b W ψ)) (hm : behindInMarks op c = false) : PE X (.Compare a [op] [c] pos) (tE b W (mOp f φ ψ)) := by
  refine weakE (pe_cmpR (ho b fit) ha hc hm) fun σ H Q ⟨F, ρ, k, h⟩ => ?_
  exact run2 k h
theorem de_un {a : Expr} {op : UnaryOp} {f : D → Option AV} {φ : M AV} (fit : Fit X b) (ho : UnD X (unaryOp op) f) (ha : PE X a (tE b W φ)) : PE X (.UnaryOp op a pos) (tE b W (mUn f φ)) := by
  refine weakE (pe_un (ho b fit) ha) fun σ H Q ⟨F, ρ, k, h⟩ => ?_
  refine runE k h fun av x ρ1 F1 H1 k1 s1 r1 h1 => ?_
  obtain ⟨F2, k2, s2, r2⟩ := k1.stab r1
  obtain ⟨dx, q1, h2⟩ := (h1.later s2).read k2 r2
  exact ⟨F2, σ, ρ1, dx, k2, q1, h2.gives⟩

/-! tests -/
theorem dt_val {e : Expr} {φ : M AV} (h : PE X e (tE b W φ)) (he : ∀ whole, isTrue e X.env whole = (do let v ← whole; standAt e.pos; holding [v] (truthy v)) := by intro _; rfl) : PT X e (tT b W (mTest φ)) := by
  refine weakT (pt_val h he) fun σ H Q ⟨F, ρ, k, a⟩ => ?_
  refine runE k a fun av x ρ1 F1 H1 k1 s1 r1 h1 => ?_
  obtain ⟨d, q1, h2⟩ := h1.read k1 r1
  obtain ⟨c, rfl, h3⟩ := rd_bl q1 h2
  exact ⟨c, rfl, h3 F1 H1 k1 (Same.refl _)⟩
theorem dt_cmp {a c : Expr} {op : CmpOp} {f : D → D → Option AV} {φ ψ : M AV} (fit : Fit X b) (ho : OpD X (compareOp op) f) (ha : PE X a (tE b W φ)) (hc : PE X c (tE b W ψ)) (hm : behindInMarks op c = false) : PT X (.Compare a [op] [c] pos) (tT b W (mTest (mOp f φ ψ))) := by
  refine weakT (pt_cmpR (ho b fit) ha hc hm) fun σ H Q ⟨F, ρ, k, h⟩ => ?_
  exact run2T k h
theorem dt_not {e : Expr} {φ : M Bool} (h : PT X e (tT b W φ)) : PT X (.UnaryOp .Not e pos) (tT b W (mNot φ)) := by
  refine weakT (pt_not h) fun σ H Q ⟨F, ρ, k, a⟩ => ?_
  exact runT k a fun c ρ1 F1 H1 k1 s1 h1 => h1 F1 H1 k1 (Same.refl _)
end
end DL

namespace DL
open PySem PySem.Spec L2

section
variable {X : Cx} {b : Bs} {W : WX} {pos : Pos}
/-! and, or -/
def mAnd (φ ψ : M Bool) : M Bool := φ.bnd fun k => if k then ψ else M.ret false
def mOr (φ ψ : M Bool) : M Bool := φ.bnd fun k => if k then M.ret true else ψ
theorem dw_and1 {a : Expr} {φ : M Bool} (ha : PT X a (tT b W φ)) : PW X (.BoolOp .And [a] pos) (tT b W φ) := pw_and1 ha
theorem dw_or1 {a : Expr} {φ : M Bool} (ha : PT X a (tT b W φ)) : PW X (.BoolOp .Or [a] pos) (tT b W φ) := pw_or1 ha
theorem weakW {X : Cx} {e : Expr} {t t' : TT} (h : PW X e t) (i : ∀ σ H Q, t' σ H Q → t σ H Q) : PW X e t' := ⟨fun wh pins s σ H Q I q => h.run wh pins s σ H Q I (i _ _ _ q)⟩
theorem dw_and {a c : Expr} {rest : List Expr} {φ ψ : M Bool} (ha : PT X a (tT b W φ)) (hb : PW X (.BoolOp .And (c :: rest) pos) (tT b W ψ)) : PW X (.BoolOp .And (a :: c :: rest) pos) (tT b W (mAnd φ ψ)) := by
  refine weakW (pw_and ha hb) fun σ H Q ⟨F, ρ, k, h⟩ => ?_
  refine runT k h fun c ρ1 F1 H1 k1 s1 h1 => ?_
  cases c with
  | true => exact iteT ⟨F1, ρ1, k1, h1⟩
  | false => exact iteF (h1 F1 H1 k1 (Same.refl _))
theorem dw_or {a c : Expr} {rest : List Expr} {φ ψ : M Bool} (ha : PT X a (tT b W φ)) (hb : PW X (.BoolOp .Or (c :: rest) pos) (tT b W ψ)) : PW X (.BoolOp .Or (a :: c :: rest) pos) (tT b W (mOr φ ψ)) := by
  refine weakW (pw_or ha hb) fun σ H Q ⟨F, ρ, k, h⟩ => ?_
  refine runT k h fun c ρ1 F1 H1 k1 s1 h1 => ?_
  cases c with
  | false => exact iteF ⟨F1, ρ1, k1, h1⟩
  | true => exact iteT (h1 F1 H1 k1 (Same.refl _))
theorem de_one {a : Expr} {op : BoolOp} {φ : M AV} (h : PE X a (tE b W φ)) : PE X (.BoolOp op [a] pos) (tE b W φ) := pe_one h
theorem de_and {a c : Expr} {rest : List Expr} {φ ψ : M AV} (ha : PE X a (tE b W φ)) (hb : PE X (.BoolOp .And (c :: rest) pos) (tE b W ψ)) : PE X (.BoolOp .And (a :: c :: rest) pos) (tE b W (mAndV φ ψ)) := by
  refine weakE (pe_and ha hb) fun σ H Q ⟨F, ρ, k, h⟩ => ?_
  refine runE k h fun av x ρ1 F1 H1 k1 s1 r1 h1 => ?_
  obtain ⟨d, q1, h2⟩ := h1.read k1 r1
  cases d with
  | bl c =>
    rcases q1 with r | ⟨a, _, oa⟩
    · unfold Rep at r
      cases c with
      | true => exact ⟨true, r, iteT ⟨F1, ρ1, k1, h2⟩⟩
      | false => exact ⟨false, r, iteF (h2 F1 H1 k1 (Same.refl _) _ (by show Rep _ _ _ _ _; unfold Rep; rfl))⟩
    · exact oa.elim
  | _ => exact h2.elim
theorem de_or {a c : Expr} {rest : List Expr} {φ ψ : M AV} (ha : PE X a (tE b W φ)) (hb : PE X (.BoolOp .Or (c :: rest) pos) (tE b W ψ)) : PE X (.BoolOp .Or (a :: c :: rest) pos) (tE b W (mOrV φ ψ)) := by
  refine weakE (pe_or ha hb) fun σ H Q ⟨F, ρ, k, h⟩ => ?_
  refine runE k h fun av x ρ1 F1 H1 k1 s1 r1 h1 => ?_
  obtain ⟨d, q1, h2⟩ := h1.read k1 r1
  cases d with
  | bl c =>
    rcases q1 with r | ⟨a, _, oa⟩
    · unfold Rep at r
      cases c with
      | false => exact ⟨false, r, iteF ⟨F1, ρ1, k1, h2⟩⟩
      | true => exact ⟨true, r, iteT (h2 F1 H1 k1 (Same.refl _) _ (by show Rep _ _ _ _ _; unfold Rep; rfl))⟩
    · exact oa.elim
  | _ => exact h2.elim
def mNotV (φ : M AV) : M AV := φ.bnd fun a => (rd a).bnd fun d => match d with
  | .bl k => M.ret (.fz (.bl (!k)))
  | _ => M.stuck
theorem de_not {a : Expr} {φ : M AV} (ha : PE X a (tE b W φ)) : PE X (.UnaryOp .Not a pos) (tE b W (mNotV φ)) := by
  refine weakE (pe_not ha) fun σ H Q ⟨F, ρ, k, h⟩ => ?_
  refine runE k h fun av x ρ1 F1 H1 k1 s1 r1 h1 => ?_
  obtain ⟨d, q1, h2⟩ := h1.read k1 r1
  cases d with
  | bl c =>
    rcases q1 with r | ⟨a, _, oa⟩
    · unfold Rep at r
      exact ⟨c, r, h2 F1 H1 k1 (Same.refl _) _ (by show Rep _ _ _ _ _; unfold Rep; rfl)⟩
    · exact oa.elim
  | _ => exact h2.elim
theorem de_if {c a d : Expr} {τ : M Bool} {φ ψ : M AV} (hc : PT X c (tT b W τ)) (ha : PE X a (tE b W φ)) (hd : PE X d (tE b W ψ)) : PE X (.IfExp c a d pos) (tE b W (mIf τ φ ψ)) := by
  refine weakE (pe_ifExp hc ha hd) fun σ H Q ⟨F, ρ, k, h⟩ => ?_
  refine runT k h fun c ρ1 F1 H1 k1 s1 h1 => ?_
  cases c with
  | true => exact iteT ⟨F1, ρ1, k1, h1⟩
  | false => exact iteF ⟨F1, ρ1, k1, h1⟩
/-! arguments, displays -/
theorem da_nil : PA X [] (tAs b W mNil) := weakA pa_nil fun σ H Q ⟨F, ρ, k, h⟩ => h F H k (Same.refl _) [] .nil
theorem RepAs.mono {F F' H H' : Hp} {σ : St} {ρ ρ' : Env} {avs : List AV} {vs : List V} (r : RepAs b F H σ ρ avs vs) (s : Same F F') : RepAs b F' H' σ ρ' avs vs := by
  induction r with
  | nil => exact .nil
  | cons r1 r2 ih => exact .cons (r1.stays s) ih
theorem da_cons {e : Expr} {es : List Expr} {φ : M AV} {ψ : M (List AV)} (ha : PE X e (tE b W φ)) (hr : PA X es (tAs b W ψ)) (hs : starEach (e :: es) X.env = (false, eval e X.env) :: starEach es X.env := by rfl) : PA X (e :: es) (tAs b W (mCons φ ψ)) := by
  refine weakA (pa_cons ha hr hs) fun σ H Q ⟨F, ρ, k, h⟩ => ?_
  refine runE k h fun av x ρ1 F1 H1 k1 s1 r1 h1 => ?_
  obtain ⟨F2, k2, s2, r2⟩ := k1.stab r1
  refine runA k2 (h1.later s2) fun avs vs ρ3 F3 H3 k3 s3 r3 h3 => ?_
  exact h3 F3 H3 k3 (Same.refl _) _ (.cons (r2.stays s3) r3)
theorem de_tup {es : List Expr} {φ : M (List AV)} {x1 : Nat} (h : PA X es (tAs b W φ)) : PE X (.Tuple es x1 pos) (tE b W (mTup φ)) := by
  refine weakE (pe_tup h) fun σ H Q ⟨F, ρ, k, h⟩ => ?_
  refine runA k h fun avs vs ρ1 F1 H1 k1 s1 r1 h1 => ?_
  obtain ⟨ds, ρ2, F2, k2, s2, q2, h2⟩ := After.frozeAll r1 k1 (Same.refl _) h1
  have hl : ds.length = vs.length := RepL.len q2
  by_cases hz : ds.length ≤ sizeLine
  · rw [if_pos hz] at h2
    refine ⟨by rw [← hl]; exact hz, fun p hp => ?_⟩
    have g : Grow F2 H1 (upd F2 p (.tup vs)) (upd H1 p (.tup vs)) := Grow.frozen k2.sub hp
    refine h2 _ _ (k2.grow g) g.ext _ ?_
    show Rep _ _ _ _ _
    unfold Rep
    exact ⟨p, vs, rfl, SqT.of upd_same, q2.mono g.ext⟩
  · rw [if_neg hz] at h2
    exact h2.elim
theorem de_lst {es : List Expr} {φ : M (List AV)} (h : PA X es (tAs b W φ)) : PE X (.List es pos) (tE b W (mLst φ)) := by
  refine weakE (pe_lst h) fun σ H Q ⟨F, ρ, k, h⟩ => ?_
  refine runA k h fun avs vs ρ1 F1 H1 k1 s1 r1 h1 => ?_
  obtain ⟨ds, ρ2, F2, k2, s2, q2, h2⟩ := After.frozeAll r1 k1 (Same.refl _) h1
  have hl : ds.length = vs.length := RepL.len q2
  by_cases hz : ds.length ≤ sizeLine
  · rw [if_pos hz] at h2
    refine ⟨by rw [← hl]; exact hz, fun p hp => ?_⟩
    have g : Grow F2 H1 F2 (upd H1 p (.lst vs)) := Grow.owned k2.sub hp
    refine h2 _ _ (k2.grow g) (Same.refl _) _ ⟨p, rfl, k2.fresh_F hp, k2.fresh_0 hp, ⟨vs, upd_same, q2⟩, k2.apart_new hp, k2.prot_new hp⟩
  · rw [if_neg hz] at h2
    exact h2.elim
/-! built-ins, methods of built-in types -/
theorem runD {f : List D → Option AV} {φ : M (List AV)} {σ : St} {F H : Hp} {ρ : Env} {Q : VK} (k : Ok b ρ F H σ) (h : After b W σ F (mCall f φ ρ) fun av ρ' F' H' => ∀ v, RepA b F' H' σ ρ' av v → Q v H') :
    tAs b W φ σ H fun xs H1 => rDs b f xs H1 Q := by
  refine runA k h fun avs vs ρ1 F1 H1 k1 s1 r1 h1 => ?_
  obtain ⟨ds, q1, h2⟩ := After.readAll k1 r1 h1
  exact ⟨F1, σ, ρ1, ds, k1, q1, h2.gives⟩
theorem de_callB {x : Str} {p : Pos} {e : Expr} {es : List Expr} {id : String} {f : List D → Option AV} {φ : M (List AV)} (fit : Fit X b) (hc : CallD X (.builtin id) f) (hm : X.mg x = none) (hv : bootBuiltins x = some (.builtin id)) (ha : PA X (e :: es) (tAs b W φ)) (hg : Gl X x := by rfl)
    (hn : x ≠ "__name__" := by decide) (hdb : (x == ("__debug__" : Str)) = false := by decide) (he : starEach (e :: es) X.env = (false, eval e X.env) :: starEach es X.env := by rfl) (hpl : (backTo pos (starEach es X.env)).any (·.1) = false := by rfl) :
    PE X (.Call (.Name x p) (e :: es) [] pos) (tE b W (mCall f φ)) :=
  weakE (pe_callB (hc b fit) hg hm hv ha hn hdb he hpl) fun σ H Q ⟨F, ρ, k, h⟩ => runD k h
theorem de_callTy {x : Str} {p : Pos} {e : Expr} {es : List Expr} {T : String} {f : List D → Option AV} {φ : M (List AV)} (fit : Fit X b) (hc : CallD X (.type T) f) (hm : X.mg x = none) (hv : bootBuiltins x = some (.type T)) (ha : PA X (e :: es) (tAs b W φ)) (hg : Gl X x := by rfl)
    (hn : x ≠ "__name__" := by decide) (hdb : (x == ("__debug__" : Str)) = false := by decide) (he : starEach (e :: es) X.env = (false, eval e X.env) :: starEach es X.env := by rfl) (hpl : (backTo pos (starEach es X.env)).any (·.1) = false := by rfl) :
    PE X (.Call (.Name x p) (e :: es) [] pos) (tE b W (mCall f φ)) :=
  weakE (pe_callTy (hc b fit) hg hm hv ha hn hdb he hpl) fun σ H Q ⟨F, ρ, k, h⟩ => runD k h
def mMt (f : D → List D → Option AV) (φ : M AV) (ψ : M (List AV)) : M AV := φ.bnd fun a => ψ.bnd fun avs => (rd (stab a)).bnd fun d => (rdAll avs).bnd fun ds => lift (f d ds)
def isStr : D → Bool
  | .str _ => true
  | _ => false
/-- a method of texts: the receiver's data is a text -/
def mMtS (f : D → List D → Option AV) (φ : M AV) (ψ : M (List AV)) : M AV := φ.bnd fun a => (rd (stab a)).bnd fun d => if isStr d then ψ.bnd fun avs => (rdAll avs).bnd fun ds => lift (f d ds) else M.stuck
theorem de_m1 {id : String} {name : Str} {o e : Expr} {apos : Pos} {f : D → List D → Option AV} {φ ψ : M AV} (fit : Fit X b) (slot : Slot "str" name id) (ty : typeOf (.builtin id) = pure (.type "method_descriptor")) (rule : MtD X id f) (ho : PE X o (tE b W φ)) (he : PE X e (tE b W ψ))
    {pl : Sem Bool} : True := trivial
end
end DL

namespace DL
open PySem PySem.Spec L2

/-! ### a guard for new objects -/
def Bs.add (b : Bs) (P : List (Addr × HO)) : Bs := { b with P := P ++ b.P }
theorem Bs.add_nil {b : Bs} : b.add [] = b := rfl
theorem Bs.add_add {b : Bs} {P P' : List (Addr × HO)} : (b.add P).add P' = b.add (P' ++ P) := by
  show Bs.mk _ _ _ _ _ _ _ _ = Bs.mk _ _ _ _ _ _ _ _
  congr 1
  exact (List.append_assoc ..).symm
section
variable {α : Type} {b : Bs} {W : WX} {σ : St} {ρ : Env} {F H : Hp} {P : List (Addr × HO)}
theorem Ok.unadd (k : Ok (b.add P) ρ F H σ) : Ok b ρ F H σ := ⟨k.sub, k.old, k.ext, k.new, k.len, k.slot, k.sep, k.bor, fun p hp => k.prot p (List.mem_append_right _ hp)⟩
theorem Ok.add (k : Ok b ρ F H σ) {p : Addr} {o : HO} (h1 : H p = some o) (h2 : F p = none) (h3 : Apart ρ σ p) : Ok (b.add [(p, o)]) ρ F H σ := ⟨k.sub, k.old, k.ext, k.new, k.len, k.slot, k.sep, k.bor, fun q hq => by
  rcases List.mem_cons.mp (show q ∈ (p, o) :: b.P from hq) with rfl | hq
  · exact ⟨h1, h2, h3⟩
  · exact k.prot q hq⟩
theorem After.add {r : R α} {Q : α → Env → Hp → Hp → Prop} (h : After b W σ F r Q) : After (b.add P) W σ F r fun a ρ' F' H' => Ok (b.add P) ρ' F' H' σ ∧ Q a ρ' F' H' := by
  cases r with
  | no => exact h
  | ex x ρ' => exact fun c dd F' H' k s q => h c dd F' H' k.unadd s q
  | ok a ρ' => exact fun F' H' k s => ⟨k, h F' H' k.unadd s⟩
end
/-- in whatever guard -/
def tEx (b : Bs) (W : WX) (φ : M AV) : TE := fun σ H Q => ∃ P, tE (b.add P) W φ σ H Q
def tAx (b : Bs) (t : Bs → TA) : TA := fun σ H Q => ∃ P, t (b.add P) σ H Q
theorem ex_add {X : Cx} {b : Bs} {W : WX} {e : Expr} {φ : M AV} (h : ∀ P, PE X e (tE (b.add P) W φ)) : PE X e (tEx b W φ) := ⟨fun pins s σ H Q I ⟨P, q⟩ => (h P).run pins s σ H Q I q⟩
theorem ax_add {X : Cx} {b : Bs} {t : Bs → TA} {es : List Expr} (h : ∀ P, PA X es (t (b.add P))) : PA X es (tAx b t) := ⟨fun pos pins s σ H Q I ⟨P, q⟩ => (h P).run pos pins s σ H Q I q⟩

/-! ### several values at once, new ones kept -/
inductive Md where
  | fz | keep | unsl
def modeM : Md → AV → M AV
  | .fz, a => (frz a).bnd fun d => M.ret (.fz d)
  | .keep, a => M.ret a
  | .unsl, .sl i => (frz (.sl i)).bnd fun d => M.ret (.fz d)
  | .unsl, a => M.ret a
def mRc (m : Md) (φ : M AV) (ψ : M (List AV)) : M (List AV) := φ.bnd fun a => (modeM m a).bnd fun a => ψ.bnd fun r => M.ret (a :: r)
/-- the new objects' addresses -/
def ows : List AV → List V → List Addr
  | .ow _ :: r, .ref a :: s => a :: ows r s
  | _ :: r, _ :: s => ows r s
  | _, _ => []
inductive RepR (b : Bs) (F H : Hp) (σ : St) (ρ : Env) : List AV → List V → Prop
  | nil : RepR b F H σ ρ [] []
  | cons {av : AV} {avs : List AV} {v : V} {vs : List V} : RepA b F H σ ρ av v → (∀ d, av = .ow d → ∀ a, v = .ref a → a ∉ ows avs vs) → RepR b F H σ ρ avs vs → RepR b F H σ ρ (av :: avs) (v :: vs)
def tR (W : WX) (φ : M (List AV)) (b : Bs) : TA := fun σ H Q => ∃ F ρ, Ok b ρ F H σ ∧ After b W σ F (φ ρ) fun avs ρ' F' H' => ∀ vs, RepR b F' H' σ ρ' avs vs → Q vs H'
section
variable {X : Cx} {b : Bs} {W : WX} {pos : Pos}
theorem After.mode {α : Type} {σ : St} {F H : Hp} {ρ : Env} {m : Md} {av : AV} {v : V} {f : AV → M α} {Q : α → Env → Hp → Hp → Prop} (k : Ok b ρ F H σ) (r : RepA b F H σ ρ av v) (h : After b W σ F ((modeM m av).bnd f ρ) Q) :
    ∃ av2 ρ2 F2, Ok b ρ2 F2 H σ ∧ Same F F2 ∧ RepA b F2 H σ ρ2 av2 v ∧ After b W σ F2 (f av2 ρ2) Q := by
  have frozen : After b W σ F (((frz av).bnd fun d => M.ret (.fz d)).bnd f ρ) Q → ∃ av2 ρ2 F2, Ok b ρ2 F2 H σ ∧ Same F F2 ∧ RepA b F2 H σ ρ2 av2 v ∧ After b W σ F2 (f av2 ρ2) Q := fun h => by
    rw [M.bnd_assoc] at h
    obtain ⟨d, ρ2, F2, k2, s2, q2, h2⟩ := After.froze k r h
    exact ⟨.fz d, ρ2, F2, k2, s2, q2, h2⟩
  cases m with
  | fz => exact frozen h
  | keep => exact ⟨av, ρ, F, k, Same.refl _, r, h⟩
  | unsl =>
    cases av with
    | fz d => exact ⟨.fz d, ρ, F, k, Same.refl _, r, h⟩
    | ow d => exact ⟨.ow d, ρ, F, k, Same.refl _, r, h⟩
    | sl i => exact frozen h
theorem dr_nil : PA X [] (tR W mNil b) := weakA pa_nil fun σ H Q ⟨F, ρ, k, h⟩ => h F H k (Same.refl _) [] .nil
theorem ows_mem : ∀ {avs : List AV} {vs : List V} {b : Bs} {F H : Hp} {σ : St} {ρ : Env} {a : Addr}, RepR b F H σ ρ avs vs → a ∈ ows avs vs → F a = none ∧ b.H_0 a = none ∧ Apart ρ σ a ∧ ∀ p ∈ b.P, p.1 ≠ a
  | _, _, _, _, _, _, _, _, .nil, h => by cases h
  | av :: avs, v :: vs, b, F, H, σ, ρ, a, .cons r hn t, h => by
    cases av with
    | sl i =>
      have : ows (.sl i :: avs) (v :: vs) = ows avs vs := by cases v <;> rfl
      rw [this] at h
      exact ows_mem t h
    | fz d =>
      have : ows (.fz d :: avs) (v :: vs) = ows avs vs := by cases v <;> rfl
      rw [this] at h
      exact ows_mem t h
    | ow d =>
      obtain ⟨c, ec, n, n0, _, ap, np⟩ := r
      subst ec
      rcases List.mem_cons.mp (show a ∈ c :: ows avs vs from h) with rfl | h
      · exact ⟨n, n0, ap, np⟩
      · exact ows_mem t h
theorem RepR.unadd {P : List (Addr × HO)} {F H : Hp} {σ : St} {ρ : Env} {avs : List AV} {vs : List V} (r : RepR (b.add P) F H σ ρ avs vs) : RepR b F H σ ρ avs vs := by
  induction r with
  | nil => exact .nil
  | @cons av avs v vs r hn t ih =>
    refine .cons ?_ hn ih
    cases av with
    | sl i => exact r
    | fz d => exact r
    | ow d =>
      obtain ⟨c, ec, n, n0, oa, ap, np⟩ := r
      exact ⟨c, ec, n, n0, oa, ap, fun p hp => np p (List.mem_append_right _ hp)⟩
theorem dr_cons {e : Expr} {es : List Expr} {φ : M AV} {ψ : M (List AV)} (m : Md) (ha : PE X e (tE b W φ)) (hr : ∀ P, PA X es (tR W ψ (b.add P))) (hs : starEach (e :: es) X.env = (false, eval e X.env) :: starEach es X.env := by rfl) : PA X (e :: es) (tR W (mRc m φ ψ) b) := by
  refine weakA (pa_cons ha (ax_add hr) hs) fun σ H Q ⟨F, ρ, k, h⟩ => ?_
  refine runE k h fun av x ρ1 F1 H1 k1 s1 r1 h1 => ?_
  obtain ⟨av2, ρ2, F2, k2, s2, r2, h2⟩ := After.mode k1 r1 h1
  cases av2 with
  | sl i =>
    refine ⟨[], F2, ρ2, k2, h2.bnd.imp fun avs ρ3 F3 H3 k3 s3 ⟨_, h3⟩ vs r3 => ?_⟩
    exact h3 F3 H3 k3 (Same.refl _) _ (.cons (show σ[i]? = some (some x) from r2) (fun d e => by cases e) r3)
  | fz d =>
    refine ⟨[], F2, ρ2, k2, h2.bnd.imp fun avs ρ3 F3 H3 k3 s3 ⟨_, h3⟩ vs r3 => ?_⟩
    exact h3 F3 H3 k3 (Same.refl _) _ (.cons (show Rep _ _ _ _ _ from Rep.mono s3 r2) (fun d e => by cases e) r3)
  | ow d =>
    obtain ⟨p, rfl, n, n0, oa, ap, np⟩ := r2
    obtain ⟨o, ho⟩ := oa.some
    have k2' := k2.add ho n ap
    refine ⟨[(p, o)], F2, ρ2, k2', (After.add h2.bnd).imp fun avs ρ3 F3 H3 k3 s3 ⟨_, _, h3⟩ vs r3 => ?_⟩
    obtain ⟨g1, g2, g3⟩ := k3.prot (p, o) List.mem_cons_self
    refine h3 F3 H3 k3.unadd (Same.refl _) _ (.cons ⟨p, rfl, g2, n0, ?_, g3, np⟩ (fun d' _ a ea => ?_) r3.unadd)
    · refine OwnAt.mono s3 (fun o' e' => ?_) oa
      rw [ho] at e'; cases e'; exact g1
    · cases ea
      exact fun hm => (ows_mem r3 hm).2.2.2 (p, o) List.mem_cons_self rfl
theorem RepR.grow {F H F' H' : Hp} {σ : St} {ρ : Env} {avs : List AV} {vs : List V} (r : RepR b F H σ ρ avs vs) (g : Grow F H F' H') : RepR b F' H' σ ρ avs vs := by
  induction r with
  | nil => exact .nil
  | cons r hn t ih => exact .cons (r.grow g) hn ih
end
/-! ### defs: what they give for data -/
inductive FR where
  | ok (own : Bool) (d : D) (bs : List D) | ex (e : Exn) (bs : List D) | no
abbrev Fn := List Sl → FR
def ArgOk (K : PySem.W.Frag) (mg : Str → Option Value) (F H : Hp) : Sl → V → Prop
  | .fz d, v => Rep K mg F d v
  | .bo d, v => ∃ a, v = .ref a ∧ F a = none ∧ OwnAt K mg F H a d
  | _, _ => False
inductive Args (K : PySem.W.Frag) (mg : Str → Option Value) (F H : Hp) : List Sl → List V → Prop
  | nil : Args K mg F H [] []
  | cons {s : Sl} {ks : List Sl} {v : V} {vs : List V} : ArgOk K mg F H s v → Args K mg F H ks vs → Args K mg F H (s :: ks) (v :: vs)
/-- the borrowed objects, from the left -/
def boA : List Sl → List V → List Addr
  | .bo _ :: r, .ref a :: t => a :: boA r t
  | _ :: r, _ :: t => boA r t
  | _, _ => []
inductive BoOut (K : PySem.W.Frag) (mg : Str → Option Value) (F H : Hp) : List Addr → List D → Prop
  | nil : BoOut K mg F H [] []
  | cons {a : Addr} {as : List Addr} {d : D} {ds : List D} : F a = none → OwnAt K mg F H a d → BoOut K mg F H as ds → BoOut K mg F H (a :: as) (d :: ds)
structure FPost (K : PySem.W.Frag) (mg : Str → Option Value) (F H : Hp) (bo : List Addr) (bs : List D) (F' H' : Hp) : Prop where
  sub : Sub F' H'
  ext : Same F F'
  new : ∀ a o, F' a = some o → F a = some o ∨ H a = none
  old : ∀ a o, H a = some o → a ∉ bo → H' a = some o
  out : BoOut K mg F' H' bo bs
def RetOk (K : PySem.W.Frag) (mg : Str → Option Value) (H F' H' : Hp) (own : Bool) (d : D) (v : V) : Prop :=
  if own = true then ∃ a, v = .ref a ∧ F' a = none ∧ H a = none ∧ OwnAt K mg F' H' a d else Rep K mg F' d v
abbrev ExR' := @ExD
/-- a def's promise by a function on data -/
def spD (K : PySem.W.Frag) (mg : Str → Option Value) (n : Nat) (f : Fn) : Sp := fun vs H Q E => vs.length = n ∧ ∃ F ks, Sub F H ∧ Args K mg F H ks vs ∧ (boA ks vs).Nodup ∧ match f ks with
  | .ok own d bs => ∀ v F' H', FPost K mg F H (boA ks vs) bs F' H' → RetOk K mg H F' H' own d v → Q v H'
  | .ex e bs => ∀ c dd F' H', FPost K mg F H (boA ks vs) bs F' H' → ExR' K mg F' e c dd → E c dd H'
  | .no => False

/-! ### a call, from the caller's side -/
/-- what a value is as an argument; the slot it is borrowed from, or a new object -/
def argOf (ρ : Env) : AV → Option (Sl × Option (Option Nat))
  | .fz d => some (.fz d, none)
  | .ow d => some (.bo d, some none)
  | .sl i => match ρ[i]? with
    | some (.fz d) => some (.fz d, none)
    | some (.ow d) => some (.bo d, some (some i))
    | some (.bo d) => some (.bo d, some (some i))
    | _ => none
def argsOf (ρ : Env) : List AV → Option (List Sl × List (Option Nat))
  | [] => some ([], [])
  | a :: r => match argOf ρ a, argsOf ρ r with
    | some (s, none), some (ks, is) => some (s :: ks, is)
    | some (s, some none), some (ks, is) => some (s :: ks, none :: is)
    | some (s, some (some i)), some (ks, is) => if some i ∈ is then none else some (s :: ks, some i :: is)
    | _, _ => none
def Sl.put (d : D) : Sl → Sl
  | .ow _ => .ow d
  | .bo _ => .bo d
  | s => s
def putB : List (Option Nat) → List D → Env → Env
  | some i :: is, d :: ds, ρ => putB is ds (ρ.set i (((ρ[i]?).getD .un).put d))
  | none :: is, _ :: ds, ρ => putB is ds ρ
  | _, _, ρ => ρ
def mFn (n : Nat) (f : Fn) (avs : List AV) : M AV := if avs.length = n then fun ρ => match argsOf ρ avs with
  | none => .no
  | some (ks, is) => match f ks with
    | .ok own d bs => .ok (if own then .ow d else .fz d) (putB is bs ρ)
    | .ex e bs => .ex e (putB is bs ρ)
    | .no => .no
  else M.stuck
def mCallF (n : Nat) (f : Fn) (φ : M (List AV)) : M AV := φ.bnd fun avs => mFn n f avs

section
variable {b : Bs} {W : WX} {σ : St} {ρ : Env} {F H : Hp}
theorem putB_len : ∀ {is : List (Option Nat)} {ds : List D} {ρ : Env}, (putB is ds ρ).length = ρ.length
  | [], _, _ => by unfold putB; rfl
  | some _ :: _, [], _ => by unfold putB; rfl
  | none :: _, [], _ => by unfold putB; rfl
  | some i :: is, d :: ds, ρ => by
    unfold putB
    rw [putB_len, List.length_set]
  | none :: is, d :: ds, ρ => by
    unfold putB
    exact putB_len
theorem putB_out : ∀ {is : List (Option Nat)} {ds : List D} {ρ : Env} {j : Nat}, some j ∉ is → (putB is ds ρ)[j]? = ρ[j]?
  | [], _, _, _, _ => by unfold putB; rfl
  | some _ :: _, [], _, _, _ => by unfold putB; rfl
  | none :: _, [], _, _, _ => by unfold putB; rfl
  | some i :: is, d :: ds, ρ, j, h => by
    unfold putB
    rw [putB_out (fun q => h (List.mem_cons_of_mem _ q)), List.getElem?_set_ne (fun q => h (by rw [q]; exact List.mem_cons_self))]
  | none :: is, d :: ds, ρ, j, h => by
    unfold putB
    exact putB_out fun q => h (List.mem_cons_of_mem _ q)
theorem RepR.inv {avs : List AV} {vs : List V} (r : RepR b F H σ ρ avs vs) : avs.length = vs.length := by
  induction r with
  | nil => rfl
  | cons _ _ _ ih => rw [List.length_cons, List.length_cons, ih]

/-- what the borrowed objects are -/
structure Bor (b : Bs) (F H : Hp) (σ : St) (ρ : Env) (is : List (Option Nat)) (as : List Addr) : Prop where
  at_ : ∀ (k i : Nat) (a : Addr), is[k]? = some (some i) → as[k]? = some a → σ[i]? = some (some (.ref a)) ∧ ∃ s, ρ[i]? = some s ∧ s.held = true
  new : ∀ (k : Nat) (a : Addr), is[k]? = some none → as[k]? = some a → F a = none ∧ b.H_0 a = none ∧ Apart ρ σ a ∧ ∀ p ∈ b.P, p.1 ≠ a
  len : is.length = as.length
  nd : ∀ (k l i : Nat), is[k]? = some (some i) → is[l]? = some (some i) → k = l
  nda : as.Nodup
theorem Ok.argOf (k : Ok b ρ F H σ) {av : AV} {v : V} (r : RepA b F H σ ρ av v) {s : Sl} {o : Option (Option Nat)} (h : DL.argOf ρ av = some (s, o)) :
    ArgOk b.K b.mg F H s v ∧ ((o = none ∧ ∀ ks vs, boA (s :: ks) (v :: vs) = boA ks vs) ∨ (∃ i a, o = some (some i) ∧ v = .ref a ∧ σ[i]? = some (some (.ref a)) ∧ (∃ s, ρ[i]? = some s ∧ s.held = true) ∧ ∀ ks vs, boA (s :: ks) (v :: vs) = a :: boA ks vs) ∨
      ∃ a d, o = some none ∧ v = .ref a ∧ av = .ow d ∧ (F a = none ∧ b.H_0 a = none ∧ Apart ρ σ a ∧ ∀ p ∈ b.P, p.1 ≠ a) ∧ ∀ ks vs, boA (s :: ks) (v :: vs) = a :: boA ks vs) := by
  cases av with
  | fz d =>
    cases h
    exact ⟨r, .inl ⟨rfl, fun ks vs => by cases v <;> rfl⟩⟩
  | ow d =>
    cases h
    obtain ⟨a, rfl, n, n0, oa, ap, np⟩ := r
    exact ⟨⟨a, rfl, n, oa⟩, .inr (.inr ⟨a, d, rfl, rfl, rfl, ⟨n, n0, ap, np⟩, fun ks vs => rfl⟩)⟩
  | sl i =>
    dsimp only [DL.argOf] at h
    cases e : ρ[i]? with
    | none => rw [e] at h; cases h
    | some t =>
      rw [e] at h
      have z := k.slot i t e
      have q : σ[i]? = some (some v) := r
      rw [q] at z
      cases t with
      | xn d => cases h
      | un => cases h
      | fz d =>
        cases h
        obtain ⟨u, eu, ru⟩ := z
        cases eu
        exact ⟨ru, .inl ⟨rfl, fun ks vs => by cases v <;> rfl⟩⟩
      | ow d =>
        cases h
        obtain ⟨a, eu, n, n0, oa⟩ := z
        cases eu
        exact ⟨⟨a, rfl, n, oa⟩, .inr (.inl ⟨i, a, rfl, rfl, q, ⟨_, e, rfl⟩, fun ks vs => rfl⟩)⟩
      | bo d =>
        cases h
        obtain ⟨a, eu, n, n0, oa⟩ := z
        cases eu
        exact ⟨⟨a, rfl, n, oa⟩, .inr (.inl ⟨i, a, rfl, rfl, q, ⟨_, e, rfl⟩, fun ks vs => rfl⟩)⟩
/-- .. and the new ones among them were among the new values -/
theorem Ok.argsOf (k : Ok b ρ F H σ) {avs : List AV} {vs : List V} (r : RepR b F H σ ρ avs vs) : ∀ {ks : List Sl} {is : List (Option Nat)}, DL.argsOf ρ avs = some (ks, is) → Args b.K b.mg F H ks vs ∧ Bor b F H σ ρ is (boA ks vs) ∧ ∀ (m : Nat) (a : Addr), is[m]? = some none → (boA ks vs)[m]? = some a → a ∈ ows avs vs := by
  induction r with
  | nil =>
    intro ks is h
    cases h
    exact ⟨.nil, ⟨fun k i a e => (by cases e), fun k a e => (by cases e), rfl, fun k l i e => (by cases e), List.nodup_nil⟩, fun m a e => by cases e⟩
  | @cons av avs v vs r1 hn r2 ih =>
    intro ks is h
    dsimp only [DL.argsOf] at h
    cases e1 : DL.argOf ρ av with
    | none => rw [e1] at h; cases h
    | some p =>
      obtain ⟨s, o⟩ := p
      rw [e1] at h
      cases e2 : DL.argsOf ρ avs with
      | none =>
        rw [e2] at h
        cases o with
        | none => cases h
        | some o => cases o <;> cases h
      | some q =>
        obtain ⟨ks', is'⟩ := q
        rw [e2] at h
        obtain ⟨a1, c⟩ := k.argOf r1 e1
        obtain ⟨a2, B, hw⟩ := ih e2
        have sub : ∀ {x : Addr}, x ∈ ows avs vs → x ∈ ows (av :: avs) (v :: vs) := fun {x} hx => by
          cases av with
          | ow d => obtain ⟨p, rfl, _⟩ := r1; exact List.mem_cons_of_mem _ hx
          | fz d => cases v <;> exact hx
          | sl d => cases v <;> exact hx
        rcases c with ⟨rfl, eb⟩ | ⟨i, a, rfl, rfl, hs, hh, eb⟩ | ⟨a, d, rfl, rfl, rfl, hnew, eb⟩
        · cases h
          exact ⟨.cons a1 a2, by rw [eb]; exact B, fun m x e3 e4 => sub (hw m x e3 (by rw [eb] at e4; exact e4))⟩
        · have h : (if some i ∈ is' then none else some (s :: ks', some i :: is')) = some (ks, is) := h
          by_cases hi : some i ∈ is'
          · rw [if_pos hi] at h; cases h
          · rw [if_neg hi] at h
            cases h
            refine ⟨.cons a1 a2, ?_, fun m x e3 e4 => ?_⟩
            · rw [eb]
              refine ⟨fun k' i' a' e3 e4 => ?_, fun k' a' e3 e4 => ?_, by rw [List.length_cons, List.length_cons, B.len], fun k' l' i' e3 e4 => ?_, List.nodup_cons.mpr ⟨fun hm => ?_, B.nda⟩⟩
              · cases k' with
                | zero =>
                  cases e3; cases e4
                  exact ⟨hs, hh⟩
                | succ m => exact B.at_ m i' a' e3 e4
              · cases k' with
                | zero => cases e3
                | succ m => exact B.new m a' e3 e4
              · cases k' with
                | zero =>
                  cases e3
                  cases l' with
                  | zero => rfl
                  | succ m => exact absurd (List.mem_of_getElem? (l := is') e4) hi
                | succ m =>
                  cases l' with
                  | zero => cases e4; exact absurd (List.mem_of_getElem? (l := is') e3) hi
                  | succ m' => exact congrArg _ (B.nd m m' i' e3 e4)
              · obtain ⟨m, hm', em⟩ := List.mem_iff_getElem.mp hm
                have lm : m < is'.length := by rw [B.len]; exact hm'
                have e4 : (boA ks' vs)[m]? = some a := by rw [List.getElem?_eq_getElem hm', em]
                have e3 : is'[m]? = some is'[m] := List.getElem?_eq_getElem lm
                cases ej : is'[m] with
                | none =>
                  rw [ej] at e3
                  obtain ⟨s2, hs2, hh2⟩ := hh
                  exact (B.new m a e3 e4).2.2.1 i s2 hs2 hh2 hs
                | some j =>
                  rw [ej] at e3
                  obtain ⟨hs1, s1, hs1', hh1⟩ := B.at_ m j a e3 e4
                  obtain ⟨s2, hs2, hh2⟩ := hh
                  have := k.sep j i s1 s2 a hs1' hs2 hh1 hh2 hs1 hs
                  subst this
                  exact hi (List.mem_of_getElem? e3)
            · rw [eb] at e4
              cases m with
              | zero => cases e3
              | succ m => exact sub (hw m x e3 e4)
        · cases h
          refine ⟨.cons a1 a2, ?_, fun m x e3 e4 => ?_⟩
          · rw [eb]
            refine ⟨fun k' i' a' e3 e4 => ?_, fun k' a' e3 e4 => ?_, by rw [List.length_cons, List.length_cons, B.len], fun k' l' i' e3 e4 => ?_, List.nodup_cons.mpr ⟨fun hm => ?_, B.nda⟩⟩
            · cases k' with
              | zero => cases e3
              | succ m => exact B.at_ m i' a' e3 e4
            · cases k' with
              | zero => cases e4; exact hnew
              | succ m => exact B.new m a' e3 e4
            · cases k' with
              | zero => cases e3
              | succ m =>
                cases l' with
                | zero => cases e4
                | succ m' => exact congrArg _ (B.nd m m' i' e3 e4)
            · obtain ⟨m, hm', em⟩ := List.mem_iff_getElem.mp hm
              have lm : m < is'.length := by rw [B.len]; exact hm'
              have e4 : (boA ks' vs)[m]? = some a := by rw [List.getElem?_eq_getElem hm', em]
              have e3 : is'[m]? = some is'[m] := List.getElem?_eq_getElem lm
              cases ej : is'[m] with
              | none =>
                rw [ej] at e3
                exact hn d rfl a rfl (hw m a e3 e4)
              | some j =>
                rw [ej] at e3
                obtain ⟨hs1, s1, hs1', hh1⟩ := B.at_ m j a e3 e4
                exact hnew.2.2.1 j s1 hs1' hh1 hs1
          · rw [eb] at e4
            cases m with
            | zero => cases e4; exact List.mem_cons_self
            | succ m => exact sub (hw m x e3 e4)
theorem Bor.addr (B : Bor b F H σ ρ is as) {a : Addr} (h : a ∈ as) : (∃ i, some i ∈ is ∧ σ[i]? = some (some (.ref a)) ∧ ∃ s, ρ[i]? = some s ∧ s.held = true) ∨ (F a = none ∧ b.H_0 a = none ∧ Apart ρ σ a ∧ ∀ p ∈ b.P, p.1 ≠ a) := by
  obtain ⟨k, hk, e⟩ := List.mem_iff_getElem.mp h
  have hk' : k < is.length := by rw [B.len]; exact hk
  have e4 : as[k]? = some a := by rw [List.getElem?_eq_getElem hk, e]
  have e3 : is[k]? = some is[k] := List.getElem?_eq_getElem hk'
  cases ej : is[k] with
  | none => rw [ej] at e3; exact .inr (B.new k a e3 e4)
  | some i =>
    rw [ej] at e3
    obtain ⟨h1, h2⟩ := B.at_ k i a e3 e4
    exact .inl ⟨i, List.mem_of_getElem? e3, h1, h2⟩
theorem BoOut.at_ {K : PySem.W.Frag} {mg : Str → Option Value} {as : List Addr} {ds : List D} (h : BoOut K mg F H as ds) : ∀ {k : Nat} {a : Addr}, as[k]? = some a → ∃ d, ds[k]? = some d ∧ F a = none ∧ OwnAt K mg F H a d := by
  induction h with
  | nil => intro k a e; cases e
  | cons n o r ih =>
    intro k a e
    cases k with
    | zero => cases e; exact ⟨_, rfl, n, o⟩
    | succ m => exact ih e
theorem putB_in : ∀ {is : List (Option Nat)} {ds : List D} {ρ : Env} {k i : Nat} {d : D} {s : Sl}, (∀ (k l i : Nat), is[k]? = some (some i) → is[l]? = some (some i) → k = l) → is[k]? = some (some i) → ds[k]? = some d → ρ[i]? = some s → (putB is ds ρ)[i]? = some (s.put d)
  | [], _, _, _, _, _, _, _, e, _, _ => by cases e
  | _ :: _, [], _, _, _, _, _, _, _, e, _ => by cases e
  | none :: is, c :: ds, ρ, 0, i, d, s, nd, e1, e2, e3 => by cases e1
  | none :: is, c :: ds, ρ, k + 1, i, d, s, nd, e1, e2, e3 => by
    unfold putB
    exact putB_in (fun k l i h1 h2 => by have := nd (k + 1) (l + 1) i h1 h2; omega) e1 e2 e3
  | some j :: is, c :: ds, ρ, 0, i, d, s, nd, e1, e2, e3 => by
    cases e1; cases e2
    unfold putB
    have hj : some j ∉ is := fun hm => by
      obtain ⟨m, hm', em⟩ := List.mem_iff_getElem.mp hm
      have := nd 0 (m + 1) j rfl (by show is[m]? = _; rw [List.getElem?_eq_getElem hm', em])
      omega
    rw [putB_out hj, e3]
    rw [List.getElem?_set_self (List.getElem?_eq_some_iff.mp e3).1]
    rfl
  | some j :: is, c :: ds, ρ, k + 1, i, d, s, nd, e1, e2, e3 => by
    unfold putB
    have hne : j ≠ i := fun q => by
      subst q
      have := nd 0 (k + 1) j rfl e1
      omega
    exact putB_in (fun k l i h1 h2 => by have := nd (k + 1) (l + 1) i h1 h2; omega) e1 e2 (by rw [List.getElem?_set_ne hne]; exact e3)
/-- behind a call -/
theorem Ok.called (k : Ok b ρ F H σ) {is : List (Option Nat)} {as : List Addr} {bs : List D} {F' H' : Hp} (B : Bor b F H σ ρ is as) (p : FPost b.K b.mg F H as bs F' H') : Ok b (putB is bs ρ) F' H' σ := by
  have own0 : ∀ a ∈ as, b.H_0 a = none ∨ a ∈ b.B.map (·.2) := fun a ha => by
    rcases B.addr ha with ⟨i, _, e1, s, e2, hs⟩ | ⟨_, n0, _⟩
    · have z := k.slot i s e2
      rw [e1] at z
      cases s with
      | xn d => cases hs
      | un => cases hs
      | fz d => cases hs
      | ow d => obtain ⟨c, ec, _, n0, _⟩ := z; cases ec; exact .inl n0
      | bo d => obtain ⟨c, ec, _, n0, _⟩ := z; cases ec; exact .inr n0
    · exact .inl n0
  have hnew : ∀ a d, OwnAt b.K b.mg F H a d → F a = none → F' a = none := fun a d oa n => by
    cases q : F' a with
    | none => rfl
    | some o =>
      rcases p.new a o q with z | z
      · rw [n] at z; cases z
      · obtain ⟨o', e⟩ := oa.some
        rw [z] at e; cases e
  have inS : ∀ (i : Nat) (s : Sl), ρ[i]? = some s → some i ∈ is → ∃ a d, σ[i]? = some (some (.ref a)) ∧ (putB is bs ρ)[i]? = some (s.put d) ∧ F' a = none ∧ OwnAt b.K b.mg F' H' a d ∧ s.held = true := fun i s e hi => by
    obtain ⟨m, hm, em⟩ := List.mem_iff_getElem.mp hi
    have hm' : m < as.length := by rw [← B.len]; exact hm
    have e1 : is[m]? = some (some i) := by rw [List.getElem?_eq_getElem hm, em]
    have e2 : as[m]? = some as[m] := List.getElem?_eq_getElem hm'
    obtain ⟨h1, s', h2, h3⟩ := B.at_ m i as[m] e1 e2
    rw [e] at h2; cases h2
    obtain ⟨d, ed, n, oa⟩ := p.out.at_ e2
    exact ⟨as[m], d, h1, putB_in B.nd e1 ed e, n, oa, h3⟩
  have held_put : ∀ (s : Sl) (d : D), (s.put d).held = s.held := fun s d => by cases s <;> rfl
  have back : ∀ (i : Nat) (s : Sl), (putB is bs ρ)[i]? = some s → ∃ s', ρ[i]? = some s' ∧ s.held = s'.held := fun i s e => by
    by_cases hi : some i ∈ is
    · cases e0 : ρ[i]? with
      | none =>
        have l1 := (List.getElem?_eq_some_iff.mp e).1
        rw [putB_len] at l1
        rw [List.getElem?_eq_getElem l1] at e0; cases e0
      | some s' =>
        obtain ⟨a, d, _, e2, _⟩ := inS i s' e0 hi
        rw [e] at e2; cases e2
        exact ⟨s', rfl, held_put _ _⟩
    · rw [putB_out hi] at e
      exact ⟨s, e, rfl⟩
  refine ⟨p.sub, fun a o e hb => ?_, k.ext.trans p.ext, fun a o e => ?_, by rw [putB_len]; exact k.len, fun i s e => ?_, fun i j s s' a e1 e2 h1 h2 q1 q2 => ?_, fun q hq => ?_, fun q hq => ?_⟩
  · have hna : a ∉ as := fun hm => by
      rcases own0 a hm with z | z
      · rw [e] at z; cases z
      · exact hb z
    rcases k.old a o e hb with z | ⟨l, ob, z⟩
    · exact .inl (p.old a o z hna)
    · exact .inr ⟨l, ob, p.old a _ z hna⟩
  · rcases p.new a o e with z | z
    · exact k.new a o z
    · exact .inr (k.fresh_0 z)
  · by_cases hi : some i ∈ is
    · cases e0 : ρ[i]? with
      | none =>
        have l1 := (List.getElem?_eq_some_iff.mp e).1
        rw [putB_len] at l1
        rw [List.getElem?_eq_getElem l1] at e0; cases e0
      | some s' =>
        obtain ⟨a, d, e1, e2, n, oa, hh⟩ := inS i s' e0 hi
        rw [e] at e2; cases e2
        have z := k.slot i s' e0
        rw [e1] at z ⊢
        cases s' with
        | xn _ => cases hh
        | un => cases hh
        | fz _ => cases hh
        | ow x => obtain ⟨c, ec, _, n0, _⟩ := z; cases ec; exact ⟨a, rfl, n, n0, oa⟩
        | bo x => obtain ⟨c, ec, _, n0, _⟩ := z; cases ec; exact ⟨a, rfl, n, n0, oa⟩
    · rw [putB_out hi] at e
      have z := k.slot i s e
      have notin : ∀ a, s.held = true → (σ[i]?).getD none = some (.ref a) → a ∉ as := fun a hs ea hm => by
        rcases B.addr hm with ⟨j, hj, e1, s', e2, h2⟩ | ⟨_, _, ap, _⟩
        · have := k.sep i j s s' a e e2 hs h2 (getD_ref ea) e1
          exact hi (this ▸ hj)
        · exact ap i s e hs (getD_ref ea)
      cases s with
      | xn d => obtain ⟨a, c, dd, e1, e2, r⟩ := z; exact ⟨a, c, dd, e1, e2, r.mono p.ext⟩
      | un => trivial
      | fz d =>
        obtain ⟨v, ev, r⟩ := z
        exact ⟨v, ev, r.mono p.ext⟩
      | ow d =>
        obtain ⟨a, ea, n, n0, oa⟩ := z
        exact ⟨a, ea, hnew a d oa n, n0, oa.mono p.ext fun o q => p.old a o q (notin a rfl ea)⟩
      | bo d =>
        obtain ⟨a, ea, n, n0, oa⟩ := z
        exact ⟨a, ea, hnew a d oa n, n0, oa.mono p.ext fun o q => p.old a o q (notin a rfl ea)⟩
  · obtain ⟨t1, f1, g1⟩ := back i s e1
    obtain ⟨t2, f2, g2⟩ := back j s' e2
    exact k.sep i j t1 t2 a f1 f2 (by rw [← g1]; exact h1) (by rw [← g2]; exact h2) q1 q2
  · obtain ⟨e1, d, e2⟩ := k.bor q hq
    refine ⟨e1, ?_⟩
    by_cases hi : some q.1 ∈ is
    · obtain ⟨a, d', _, e3, _⟩ := inS _ _ e2 hi
      exact ⟨d', e3⟩
    · exact ⟨d, by rw [putB_out hi]; exact e2⟩
  · obtain ⟨h1, h2, h3⟩ := k.prot q hq
    have hna : q.1 ∉ as := fun hm => by
      rcases B.addr hm with ⟨i, _, e1, s, e2, hs⟩ | ⟨_, _, _, np⟩
      · exact h3 i s e2 hs e1
      · exact np q hq rfl
    refine ⟨p.old _ _ h1 hna, ?_, fun j s ej hs w => ?_⟩
    · cases z : F' q.1 with
      | none => rfl
      | some o =>
        rcases p.new _ o z with y | y
        · rw [h2] at y; cases y
        · rw [h1] at y; cases y
    · obtain ⟨s', e', he'⟩ := back j s ej
      exact h3 j s' e' (by rw [← he']; exact hs) w
/-- the call itself -/
theorem called_sp {n : Nat} {f : Fn} {avs : List AV} {vs : List V} {Q : VK} (k : Ok b ρ F H σ) (r : RepR b F H σ ρ avs vs) (h : After b W σ F (mFn n f avs ρ) fun av ρ' F' H' => ∀ v, RepA b F' H' σ ρ' av v → Q v H') :
    spD b.K b.mg n f vs H Q (fun c dd H' => W c dd σ H') := by
  unfold mFn at h
  by_cases hl : avs.length = n
  case neg => rw [if_neg hl] at h; exact h.elim
  rw [if_pos hl] at h
  have hn : vs.length = n := r.inv.symm.trans hl
  cases e : argsOf ρ avs with
  | none => rw [e] at h; exact h.elim
  | some p =>
    obtain ⟨ks, is⟩ := p
    rw [e] at h
    obtain ⟨A, B, _⟩ := k.argsOf r e
    refine ⟨hn, F, ks, k.sub, A, B.nda, ?_⟩
    have h : After b W σ F (match f ks with
      | .ok own d bs => .ok (if own then .ow d else .fz d) (putB is bs ρ)
      | .ex e bs => .ex e (putB is bs ρ)
      | .no => .no) fun av ρ' F' H' => ∀ v, RepA b F' H' σ ρ' av v → Q v H' := h
    cases e2 : f ks with
    | no => rw [e2] at h; exact h.elim
    | ex x bs =>
      rw [e2] at h
      exact fun c dd F' H' p q => h c dd F' H' (k.called B p) p.ext q
    | ok own d bs =>
      rw [e2] at h
      intro v F' H' p q
      refine h F' H' (k.called B p) p.ext v ?_
      cases own with
      | false =>
        exact q
      | true =>
        obtain ⟨a, ea, n1, n2, oa⟩ := q
        refine ⟨a, ea, n1, k.fresh_0 n2, oa, fun j s ej hs q => ?_, k.prot_new n2⟩
        have kc := k.called B p
        -- a is new: no slot held it ahead of the call
        have z := k.apart_new n2
        by_cases hj : some j ∈ is
        · cases e0 : ρ[j]? with
          | none =>
            have l1 := (List.getElem?_eq_some_iff.mp ej).1
            rw [putB_len] at l1
            rw [List.getElem?_eq_getElem l1] at e0; cases e0
          | some s' =>
            obtain ⟨m, hm, em⟩ := List.mem_iff_getElem.mp hj
            have hm' : m < (boA ks vs).length := by rw [← B.len]; exact hm
            obtain ⟨_, t, et, ht⟩ := B.at_ m j _ (by rw [List.getElem?_eq_getElem hm, em]) (List.getElem?_eq_getElem hm')
            exact z j t et ht q
        · rw [putB_out hj] at ej
          exact z j s ej hs q
end

/-! ### a def's promise, where no guard of repr is up -/
structure FnG (P : Program) (w : World) (K : PySem.W.Frag) (mg : Str → Option Value) (base : Heap) (k : Nat) (f : Addr) (fd : FuncData) (ps : List Str) (sp : Sp) : Prop where
  len : ∀ vs H Q E, sp vs H Q E → vs.length = ps.length
  run : ∀ (A : Around) (outer : List PySem.Env) (s : Shared) (H : Hp) (args : PySem.Args) (us : List Value) (vs : List V) (Q : VK) (E : XK), Room k A → A.guards = some [] → Env0 P w K mg base A outer s H → BindsTo s fd args (ps.zip us) → Vals vs us → sp vs H Q E →
    codeAny (model P w) A (.call (.ref f) args) (CR (L2.CX P w) outer P w H s Q E) s
theorem FnG.mono {P : Program} {w : World} {K : PySem.W.Frag} {mg : Str → Option Value} {base : Heap} {j k : Nat} {f : Addr} {fd : FuncData} {ps : List Str} {sp : Sp} (F : FnG P w K mg base j f fd ps sp) (h : j ≤ k) : FnG P w K mg base k f fd ps sp :=
  ⟨F.len, fun A outer s H args us vs Q E hr => F.run A outer s H args us vs Q E (hr.mono h)⟩
section
variable {X : Cx} {k : Nat} {f : Addr} {fd : FuncData} {ps : List Str} {sp : Sp} {E : St → XK} {x : Str} {p pos : Pos} {e : Expr} {es : List Expr} {t : TA}
theorem run_fnG {pins : List (Addr × Obj)} {σ : St} {H : Hp} {s : Shared} {Q : VK} {us : List Value} {vs : List V} (F : FnG X.prog X.w X.K X.mg X.base k f fd ps sp) (hr : Room k X.A) (hg : X.A.guards = some []) (hb : Binds X.K fd ps []) (hx : PassesAt (L2.CX X.prog X.w) X σ (E σ))
    (I : L2.Inv X pins σ H s) (r : Vals vs us) (h : sp vs H Q (E σ)) : wpAny (model X.prog X.w) X.A (call (.ref f) us) (EP X pins σ Q) X.xe s := by
  have hl : us.length = ps.length := by rw [← r.length]; exact F.len _ _ _ _ h
  have b := hb s us I.kIn (by rw [List.append_nil]; exact hl)
  rw [List.append_nil] at b
  refine wpAny_call (codeAny_mono (F.run X.A X.stack s H ⟨us, []⟩ us vs Q (E σ) hr hg I.env0 b r h) fun r s' hq => ?_)
  cases r with
  | error e => exact hx pins H s e s' I hq
  | ok fl =>
    cases fl with
    | ret u => exact I.after hq
    | next => exact False.elim hq
    | brk => exact False.elim hq
    | cont => exact False.elim hq
theorem pe_callG (F : FnG X.prog X.w X.K X.mg X.base k f fd ps sp) (hr : Room k X.A) (hgd : X.A.guards = some []) (hg : Gl X x) (hm : X.mg x = some (.ref f)) (hk : PySem.W.keepIn X.K (.ref f) = true) (hb : Binds X.K fd ps []) (hx : ∀ σ, PassesAt (L2.CX X.prog X.w) X σ (E σ))
    (ha : PA X (e :: es) t) (hdb : (x == ("__debug__" : Str)) = false) (he : starEach (e :: es) X.env = (false, eval e X.env) :: starEach es X.env) (hpl : (backTo pos (starEach es X.env)).any (·.1) = false) :
    PE X (.Call (.Name x p) (e :: es) [] pos) (tCallS sp E t) := ⟨fun pins s σ H Q I h => wpAny_Call_Name_kw (ld_glob I hg hm
  (PySem.W.callWith_K (h₀ := X.base) I.ok.mod.kin hk (thn (ha.run pos pins s σ H _ I h) fun us s1 ⟨vs, H1, I1, r, q⟩ => ⟨I1.kIn, run_fnG F hr hgd hb (hx σ) I1 r q⟩) he hpl) hdb)⟩
theorem pe_callG0 (F : FnG X.prog X.w X.K X.mg X.base k f fd ps sp) (hr : Room k X.A) (hgd : X.A.guards = some []) (hg : Gl X x) (hm : X.mg x = some (.ref f)) (hk : PySem.W.keepIn X.K (.ref f) = true) (hb : Binds X.K fd ps []) (hx : ∀ σ, PassesAt (L2.CX X.prog X.w) X σ (E σ))
    (hdb : (x == ("__debug__" : Str)) = false) : PE X (.Call (.Name x p) [] [] pos) (tCallS sp E tNil) := ⟨fun pins s σ H Q I h => wpAny_Call_Name_kw (ld_glob I hg hm
  (PySem.W.callWith_K0 I.kIn hk (run_fnG (us := []) F hr hgd hb (hx σ) I .nil h)) hdb)⟩
end

/-! ### the rule for a call by a def's name -/
structure Cl (X : Cx) (x : Str) (n : Nat) (f : Fn) : Prop where
  ex : ∃ k fa fd ps, FnG X.prog X.w X.K X.mg X.base k fa fd ps (spD X.K X.mg n f) ∧ Room k X.A ∧ X.A.guards = some [] ∧ X.mg x = some (.ref fa) ∧ PySem.W.keepIn X.K (.ref fa) = true ∧ Binds X.K fd ps []
section
variable {X : Cx} {b : Bs} {W : WX} {pos : Pos}
theorem de_call {x : Str} {p : Pos} {e : Expr} {es : List Expr} {f : Fn} {φ : M (List AV)} (fit : Fit X b) (tk : Takes X W) (c : Cl X x (es.length + 1) f) (ha : PA X (e :: es) (tR W φ b)) (hg : Gl X x := by rfl) (hdb : (x == ("__debug__" : Str)) = false := by decide)
    (he : starEach (e :: es) X.env = (false, eval e X.env) :: starEach es X.env := by rfl) (hpl : (backTo pos (starEach es X.env)).any (·.1) = false := by rfl) :
    PE X (.Call (.Name x p) (e :: es) [] pos) (tE b W (mCallF (es.length + 1) f φ)) := by
  obtain ⟨k, fa, fd, ps, F, hr, hgd, hm, hk, hb⟩ := c.ex
  refine weakE (pe_callG F hr hgd hg hm hk hb (fun σ => passAt tk σ) ha hdb he hpl) fun σ H Q ⟨F, ρ, k, h⟩ => ?_
  refine ⟨F, ρ, k, h.bnd.imp fun avs ρ1 F1 H1 k1 s1 ⟨_, h1⟩ vs r1 => ?_⟩
  have q := called_sp (n := es.length + 1) k1 r1 h1
  rw [fit.K, fit.mg] at q
  exact q
theorem de_call0 {x : Str} {p : Pos} {f : Fn} (fit : Fit X b) (tk : Takes X W) (c : Cl X x 0 f) (hg : Gl X x := by rfl) (hdb : (x == ("__debug__" : Str)) = false := by decide) :
    PE X (.Call (.Name x p) [] [] pos) (tE b W (mFn 0 f [])) := by
  obtain ⟨k, fa, fd, ps, F, hr, hgd, hm, hk, hb⟩ := c.ex
  refine weakE (pe_callG0 F hr hgd hg hm hk hb (fun σ => passAt tk σ) hdb) fun σ H Q ⟨F, ρ, k, h⟩ => ?_
  have q := called_sp (n := 0) k .nil h
  rw [fit.K, fit.mg] at q
  exact q
end
end DL

namespace DL
open PySem PySem.Spec L2

/-! ### statements -/
inductive Ctl where
  | nx | bk | ct | rt (av : AV)
/-- behind a statement -/
def Then (b : Bs) (W : WX) (F : Hp) (r : R Ctl) (D : Ends) : Prop := match r with
  | .ok .nx ρ' => ∀ σ' F' H', Ok b ρ' F' H' σ' → Same F F' → D.nx σ' H'
  | .ok .bk ρ' => ∀ σ' F' H', Ok b ρ' F' H' σ' → Same F F' → D.bk σ' H'
  | .ok .ct ρ' => ∀ σ' F' H', Ok b ρ' F' H' σ' → Same F F' → D.ct σ' H'
  | .ok (.rt av) ρ' => ∀ v σ' F' H', Ok b ρ' F' H' σ' → Same F F' → RepA b F' H' σ' ρ' av v → D.rt v H'
  | .ex e ρ' => ∀ c dd σ' F' H', Ok b ρ' F' H' σ' → Same F F' → ExR b F' e c dd → W c dd σ' H'
  | .no => False
def tS (b : Bs) (W : WX) (φ : M Ctl) : TS := fun D σ H => ∃ F ρ, Ok b ρ F H σ ∧ Then b W F (φ ρ) D
theorem Then.later {b : Bs} {W : WX} {F F1 : Hp} {r : R Ctl} {D : Ends} (h : Then b W F r D) (s : Same F F1) : Then b W F1 r D := by
  cases r with
  | no => exact h
  | ex x ρ' => exact fun c dd σ' F' H' k s' => h c dd σ' F' H' k (s.trans s')
  | ok a ρ' =>
    cases a with
    | nx => exact fun σ' F' H' k s' => h σ' F' H' k (s.trans s')
    | bk => exact fun σ' F' H' k s' => h σ' F' H' k (s.trans s')
    | ct => exact fun σ' F' H' k s' => h σ' F' H' k (s.trans s')
    | rt av => exact fun v σ' F' H' k s' => h v σ' F' H' k (s.trans s')
def mSeq (φ ψ : M Ctl) : M Ctl := φ.bnd fun c => match c with
  | .nx => ψ
  | c => M.ret c
/-- an expression, then a statement's rest -/
theorem Then.bnd {α : Type} {b : Bs} {W : WX} {σ : St} {F : Hp} {ρ : Env} {m : M α} {f : α → M Ctl} {D : Ends} (h : Then b W F (m.bnd f ρ) D) : After b W σ F (m ρ) fun a ρ' F' H' => Ok b ρ' F' H' σ ∧ Then b W F' (f a ρ') D := by
  unfold M.bnd at h
  cases e : m ρ with
  | no => rw [e] at h; exact h
  | ex x ρ' =>
    rw [e] at h
    exact fun c dd F' H' k s q => h c dd σ F' H' k s q
  | ok a ρ' =>
    rw [e] at h
    exact fun F' H' k s => ⟨k, Then.later h s⟩
section
variable {X : Cx} {b : Bs} {W : WX} {pos : Pos}
theorem runSE {φ : M AV} {f : AV → M Ctl} {σ : St} {H F : Hp} {ρ : Env} {D : Ends} {R : V → Hp → Prop} (k : Ok b ρ F H σ) (h : Then b W F (φ.bnd f ρ) D)
    (i : ∀ av v ρ1 F1 H1, Ok b ρ1 F1 H1 σ → Same F F1 → RepA b F1 H1 σ ρ1 av v → Then b W F1 (f av ρ1) D → R v H1) : tE b W φ σ H R :=
  ⟨F, ρ, k, h.bnd.imp fun av ρ' F' H' k' s q v r => i av v ρ' F' H' k' s r q.2⟩
theorem runST {φ : M Bool} {f : Bool → M Ctl} {σ : St} {H F : Hp} {ρ : Env} {D : Ends} {R : Bool → Hp → Prop} (k : Ok b ρ F H σ) (h : Then b W F (φ.bnd f ρ) D)
    (i : ∀ c ρ1 F1 H1, Ok b ρ1 F1 H1 σ → Same F F1 → Then b W F1 (f c ρ1) D → R c H1) : tT b W φ σ H R :=
  ⟨F, ρ, k, h.bnd.imp fun av ρ' F' H' k' s q => i av ρ' F' H' k' s q.2⟩
theorem runSA {φ : M (List AV)} {f : List AV → M Ctl} {σ : St} {H F : Hp} {ρ : Env} {D : Ends} {R : List V → Hp → Prop} (k : Ok b ρ F H σ) (h : Then b W F (φ.bnd f ρ) D)
    (i : ∀ avs vs ρ1 F1 H1, Ok b ρ1 F1 H1 σ → Same F F1 → RepAs b F1 H1 σ ρ1 avs vs → Then b W F1 (f avs ρ1) D → R vs H1) : tAs b W φ σ H R :=
  ⟨F, ρ, k, h.bnd.imp fun av ρ' F' H' k' s q v r => i av v ρ' F' H' k' s r q.2⟩
theorem Then.read {av : AV} {v : V} {f : D → M Ctl} {σ : St} {H F : Hp} {ρ : Env} {D : Ends} (k : Ok b ρ F H σ) (r : RepA b F H σ ρ av v) (h : Then b W F ((rd av).bnd f ρ) D) : ∃ d, Rd1 b F H d v ∧ Then b W F (f d ρ) D := by
  unfold M.bnd at h
  cases e : rd av ρ with
  | no => rw [e] at h; exact h.elim
  | ex x ρ' =>
    cases av with
    | fz d => cases e
    | ow d => cases e
    | sl i =>
      dsimp only [rd] at e
      split at e <;> cases e
  | ok d ρ' =>
    rw [e] at h
    obtain ⟨rfl, q⟩ := k.read r e
    exact ⟨d, q, h⟩
theorem Then.froze {av : AV} {v : V} {f : D → M Ctl} {σ : St} {H F : Hp} {ρ : Env} {D : Ends} (k : Ok b ρ F H σ) (r : RepA b F H σ ρ av v) (h : Then b W F ((frz av).bnd f ρ) D) :
    ∃ d ρ2 F2, Ok b ρ2 F2 H σ ∧ Same F F2 ∧ Rep b.K b.mg F2 d v ∧ Then b W F2 (f d ρ2) D := by
  unfold M.bnd at h
  cases e1 : frz av ρ with
  | no => rw [e1] at h; exact h.elim
  | ex x ρ2 =>
    cases av with
    | fz d => cases e1
    | ow d => cases e1
    | sl i =>
      dsimp only [frz] at e1
      split at e1 <;> cases e1
  | ok d ρ2 =>
    rw [e1] at h
    obtain ⟨F2, k2, s2, q2⟩ := k.froze r e1
    exact ⟨d, ρ2, F2, k2, s2, q2, Then.later (show Then b W F (f d ρ2) D from h) s2⟩

/-! blocks -/
theorem dss_nil : PSs X [] (tS b W (M.ret .nx)) := weakSs pss_nil fun D σ H ⟨F, ρ, k, h⟩ => h σ F H k (Same.refl _)
theorem dss_cons {st : Stmt} {rest : List Stmt} {φ ψ : M Ctl} (h1 : PS X st (tS b W φ)) (h2 : PSs X rest (tS b W ψ)) : PSs X (st :: rest) (tS b W (mSeq φ ψ)) := by
  refine weakSs (pss_cons h1 h2) fun D σ H ⟨F, ρ, k, h⟩ => ⟨F, ρ, k, ?_⟩
  unfold mSeq M.bnd at h
  cases e : φ ρ with
  | no => rw [e] at h; exact h
  | ex x ρ' => rw [e] at h; exact h
  | ok c ρ' =>
    rw [e] at h
    cases c with
    | nx => exact fun σ' F' H' k' s => ⟨F', ρ', k', Then.later h s⟩
    | bk => exact h
    | ct => exact h
    | rt av => exact h
theorem dss_one {st : Stmt} {φ : M Ctl} (h1 : PS X st (tS b W φ)) : PSs X [st] (tS b W φ) := pss_one h1
theorem ds_pass : PS X (.Pass pos) (tS b W (M.ret .nx)) := weakS ps_pass fun D σ H ⟨F, ρ, k, h⟩ => h σ F H k (Same.refl _)
theorem ds_break : PS X (.Break pos) (tS b W (M.ret .bk)) := weakS ps_break fun D σ H ⟨F, ρ, k, h⟩ => h σ F H k (Same.refl _)
theorem ds_doc {x : Str} {j : Nat} {pos' : Pos} : PS X (.Expr (.Constant (.str x) j pos) pos') (tS b W (M.ret .nx)) := weakS ps_doc fun D σ H ⟨F, ρ, k, h⟩ => h σ F H k (Same.refl _)
def mRet (φ : M AV) : M Ctl := φ.bnd fun av => M.ret (.rt av)
theorem ds_ret {e : Expr} {φ : M AV} (he : PE X e (tE b W φ)) : PS X (.Return (some e) pos) (tS b W (mRet φ)) := by
  refine weakS (ps_ret he) fun D σ H ⟨F, ρ, k, h⟩ => ?_
  exact runSE k h fun av v ρ1 F1 H1 k1 s1 r1 h1 => h1 v σ F1 H1 k1 (Same.refl _) r1
def mExpr (φ : M AV) : M Ctl := φ.bnd fun _ => M.ret .nx
theorem ds_expr {e : Expr} {φ : M AV} (he : PE X e (tE b W φ)) (hs : swapsWith e none pos.line X.env = pure false := by rfl) : PS X (.Expr e pos) (tS b W (mExpr φ)) := by
  refine weakS (ps_expr he hs) fun D σ H ⟨F, ρ, k, h⟩ => ?_
  exact runSE k h fun av v ρ1 F1 H1 k1 s1 r1 h1 => h1 σ F1 H1 k1 (Same.refl _)
theorem ds_if {c : Expr} {a d : List Stmt} {τ : M Bool} {φ ψ : M Ctl} (hc : PT X c (tT b W τ)) (ha : PSs X a (tS b W φ)) (hd : PSs X d (tS b W ψ)) : PS X (.If c a d pos) (tS b W (mIf τ φ ψ)) := by
  refine weakS (ps_if hc ha hd) fun D σ H ⟨F, ρ, k, h⟩ => ?_
  refine runST k h fun c ρ1 F1 H1 k1 s1 h1 => ?_
  cases c with
  | true => exact iteT ⟨F1, ρ1, k1, h1⟩
  | false => exact iteF ⟨F1, ρ1, k1, h1⟩

/-! ### storing a name -/
def isBo : Sl → Bool
  | .bo _ => true
  | _ => false
def setFz (i : Nat) (d : D) : M Unit := fun ρ => match ρ[i]? with
  | some s => if isBo s then .no else .ok () (ρ.set i (.fz d))
  | none => .no
def asg (i : Nat) : AV → M Unit
  | .fz d => setFz i d
  | .ow d => fun ρ => match ρ[i]? with
    | some s => if isBo s then .no else .ok () (ρ.set i (.ow d))
    | none => .no
  | .sl j => (frz (.sl j)).bnd fun d => setFz i d
theorem set_at {α : Type} {l : List α} {i : Nat} {x y : α} (h : l[i]? = some y) : (l.set i x)[i]? = some x := List.getElem?_set_self (List.getElem?_eq_some_iff.mp h).1
theorem Ok.setSlot {ρ : Env} {F H : Hp} {σ : St} (k : Ok b ρ F H σ) {i : Nat} {s s' : Sl} {v : V} (e : ρ[i]? = some s) (hb : isBo s = false) (hb' : isBo s' = false) (z : SlOk b F H s' (some v)) (ap : s'.held = true → ∀ a, v = .ref a → Apart ρ σ a ∧ ∀ p ∈ b.P, p.1 ≠ a) : Ok b (ρ.set i s') F H (σ.set i (some v)) := by
  have hi : i < σ.length := by rw [← k.len]; exact (List.getElem?_eq_some_iff.mp e).1
  have hσ : (σ.set i (some v))[i]? = some (some v) := List.getElem?_set_self hi
  refine ⟨k.sub, k.old, k.ext, k.new, by rw [List.length_set, List.length_set]; exact k.len, fun j t ej => ?_, fun j l t t' a ej el h1 h2 q1 q2 => ?_, fun p hp => ?_, fun p hp => ?_⟩
  · rcases set_get ej with ⟨rfl, _, rfl⟩ | ⟨hj, ej'⟩
    · rw [hσ]; exact z
    · rw [List.getElem?_set_ne (Ne.symm hj)]; exact k.slot j t ej'
  · rcases set_get ej with ⟨rfl, _, rfl⟩ | ⟨hj, ej'⟩
    · rcases set_get el with ⟨rfl, _, rfl⟩ | ⟨hl, el'⟩
      · rfl
      · rw [hσ] at q1
        cases q1
        rw [List.getElem?_set_ne (Ne.symm hl)] at q2
        exact absurd q2 ((ap h1 a rfl).1 l t' el' h2)
    · rcases set_get el with ⟨rfl, _, rfl⟩ | ⟨hl, el'⟩
      · rw [hσ] at q2
        cases q2
        rw [List.getElem?_set_ne (Ne.symm hj)] at q1
        exact absurd q1 ((ap h2 a rfl).1 j t ej' h1)
      · rw [List.getElem?_set_ne (Ne.symm hj)] at q1
        rw [List.getElem?_set_ne (Ne.symm hl)] at q2
        exact k.sep j l t t' a ej' el' h1 h2 q1 q2
  · obtain ⟨e1, d, e2⟩ := k.bor p hp
    have hne : p.1 ≠ i := fun w => by
      rw [w, e] at e2; cases e2; cases hb
    exact ⟨by rw [List.getElem?_set_ne (Ne.symm hne)]; exact e1, d, by rw [List.getElem?_set_ne (Ne.symm hne)]; exact e2⟩
  · obtain ⟨h1, h2, h3⟩ := k.prot p hp
    refine ⟨h1, h2, fun j t ej hs w => ?_⟩
    rcases set_get ej with ⟨rfl, _, rfl⟩ | ⟨hj, ej'⟩
    · rw [hσ] at w
      cases w
      exact (ap hs _ rfl).2 p hp rfl
    · rw [List.getElem?_set_ne (Ne.symm hj)] at w
      exact h3 j t ej' hs w
theorem setFz_ok {ρ ρ' : Env} {F H : Hp} {σ : St} (k : Ok b ρ F H σ) {i : Nat} {d : D} {v : V} (r : Rep b.K b.mg F d v) (h : setFz i d ρ = .ok () ρ') : Ok b ρ' F H (σ.set i (some v)) := by
  unfold setFz at h
  cases e : ρ[i]? with
  | none => rw [e] at h; cases h
  | some s =>
    rw [e] at h
    have h : (if isBo s then R.no else .ok () (ρ.set i (.fz d))) = .ok () ρ' := h
    cases hb : isBo s with
    | true => rw [hb] at h; cases h
    | false =>
      rw [hb] at h; cases h
      exact k.setSlot e hb rfl ⟨v, rfl, r⟩ fun q => by cases q
theorem Then.setFz {ρ : Env} {F H : Hp} {σ : St} (k : Ok b ρ F H σ) {i : Nat} {d : D} {v : V} (r : Rep b.K b.mg F d v) {f : M Ctl} {D : Ends} (h : Then b W F ((DL.setFz i d).bnd (fun _ => f) ρ) D) : ∃ ρ', Ok b ρ' F H (σ.set i (some v)) ∧ Then b W F (f ρ') D := by
  unfold M.bnd at h
  cases e : DL.setFz i d ρ with
  | no => rw [e] at h; exact h.elim
  | ex x ρ' =>
    unfold DL.setFz at e
    split at e
    · split at e <;> cases e
    · cases e
  | ok u ρ' =>
    rw [e] at h
    exact ⟨ρ', setFz_ok k r e, h⟩
theorem Then.asg {ρ : Env} {F H : Hp} {σ : St} (k : Ok b ρ F H σ) {i : Nat} {av : AV} {v : V} (r : RepA b F H σ ρ av v) {f : M Ctl} {D : Ends} (h : Then b W F ((asg i av).bnd (fun _ => f) ρ) D) :
    ∃ ρ' F', Ok b ρ' F' H (σ.set i (some v)) ∧ Same F F' ∧ Then b W F' (f ρ') D := by
  cases av with
  | fz d =>
    obtain ⟨ρ', k', h'⟩ := Then.setFz k r h
    exact ⟨ρ', F, k', Same.refl _, h'⟩
  | sl j =>
    have h : Then b W F (((frz (.sl j)).bnd fun d => DL.setFz i d).bnd (fun _ => f) ρ) D := h
    rw [M.bnd_assoc] at h
    obtain ⟨d, ρ2, F2, k2, s2, q2, h2⟩ := Then.froze k r h
    obtain ⟨ρ', k', h'⟩ := Then.setFz k2 q2 h2
    exact ⟨ρ', F2, k', s2, h'⟩
  | ow d =>
    unfold M.bnd at h
    cases e : ρ[i]? with
    | none =>
      dsimp only [DL.asg] at h
      rw [e] at h
      exact h.elim
    | some s =>
      dsimp only [DL.asg] at h
      rw [e] at h
      cases hb : isBo s with
      | true =>
        simp only [hb] at h
        exact h.elim
      | false =>
        simp only [hb] at h
        obtain ⟨a, rfl, n, n0, oa, ap⟩ := r
        refine ⟨_, F, k.setSlot (s' := .ow d) e hb rfl ⟨a, rfl, n, n0, oa⟩ (fun _ c ec => ?_), Same.refl _, h⟩
        cases ec
        exact ap
def mAsg (i : Nat) (φ : M AV) : M Ctl := φ.bnd fun av => (asg i av).bnd fun _ => M.ret .nx
theorem ds_set {i : Nat} {x : Str} {e : Expr} {φ : M AV} {pos' : Pos} (hN : X.N.Nodup) (hi : X.N[i]? = some x) (hx : Loc X.env.scope x) (he : PE X e (tE b W φ)) (hs : swapsWith e (some (.Name x pos')) pos.line X.env = pure false := by rfl)
    (hf : X.fn x = true ∨ X.env.scope.names.lookup x = some .local := by first | exact .inl rfl | exact .inr rfl | assumption) : PS X (.Assign [.Name x pos'] e pos) (tS b W (mAsg i φ)) := by
  refine weakS (ps_set hN hi hx he hs hf) fun D σ H ⟨F, ρ, k, h⟩ => ?_
  refine runSE k h fun av v ρ1 F1 H1 k1 s1 r1 h1 => ?_
  obtain ⟨ρ2, F2, k2, s2, h2⟩ := Then.asg k1 r1 h1
  exact h2 _ F2 H1 k2 (Same.refl _)

/-! ### targets -/
/-- a target: names, tuples of targets -/
inductive Tg where
  | nm (i : Nat) | tp (l : List Tg)
mutual
def bindT : Tg → D → M Unit
  | .nm i, d => setFz i d
  | .tp l, d => match d with
    | .tup ds => bindTs l ds
    | _ => M.stuck
def bindTs : List Tg → List D → M Unit
  | [], [] => M.ret ()
  | t :: ts, d :: ds => (bindT t d).bnd fun _ => bindTs ts ds
  | _, _ => M.stuck
end
mutual
def Tg.slots : Tg → List Nat
  | .nm i => [i]
  | .tp l => Tg.slotsL l
def Tg.slotsL : List Tg → List Nat
  | [] => []
  | t :: ts => t.slots ++ Tg.slotsL ts
end
def Out (l : List Nat) (σ σ' : St) : Prop := σ'.length = σ.length ∧ ∀ j, j ∉ l → σ'[j]? = σ[j]?
/-- what a target's store does, for data -/
def tGd (b : Bs) (t : Tg) : TG := fun v σ H Q => ∃ F ρ d, Ok b ρ F H σ ∧ Rep b.K b.mg F d v ∧ match bindT t d ρ with
  | .ok _ ρ' => ∀ σ', Ok b ρ' F H σ' → Out t.slots σ σ' → Q σ' H
  | _ => False
def tGds (b : Bs) (t : List Tg) : TGs := fun vs σ H Q => ∃ F ρ ds, Ok b ρ F H σ ∧ RepL b.K b.mg F ds vs ∧ match bindTs t ds ρ with
  | .ok _ ρ' => ∀ σ', Ok b ρ' F H σ' → Out (Tg.slotsL t) σ σ' → Q σ' H
  | _ => False
theorem weakG {e : Expr} {t t' : TG} (h : PG X e t) (i : ∀ v σ H Q, t' v σ H Q → t v σ H Q) : PG X e t' := ⟨fun pins s σ H v u Q I r q => h.run pins s σ H v u Q I r (i _ _ _ _ q)⟩
theorem weakGs {e : List Expr} {t t' : TGs} (h : PGs X e t) (i : ∀ v σ H Q, t' v σ H Q → t v σ H Q) : PGs X e t' := ⟨fun pins s σ H v u Q I r q => h.run pins s σ H v u Q I r (i _ _ _ _ q)⟩
theorem dg_name {i : Nat} {x : Str} (hN : X.N.Nodup) (hi : X.N[i]? = some x) (hx : Loc X.env.scope x) (hf : X.fn x = true ∨ X.env.scope.names.lookup x = some .local := by first | exact .inl rfl | exact .inr rfl | assumption) : PG X (.Name x pos) (tGd b (.nm i)) := by
  refine weakG (pg_name hN hi hx hf) fun v σ H Q ⟨F, ρ, d, k, r, h⟩ => ?_
  have h : match setFz i d ρ with
    | .ok _ ρ' => ∀ σ', Ok b ρ' F H σ' → Out [i] σ σ' → Q σ' H
    | _ => False := by
      unfold bindT Tg.slots at h; exact h
  cases e : setFz i d ρ with
  | no => rw [e] at h; exact h.elim
  | ex x ρ' => rw [e] at h; exact h.elim
  | ok u ρ' =>
    rw [e] at h
    exact h _ (setFz_ok k r e) ⟨List.length_set, fun j hj => List.getElem?_set_ne fun q => hj (by rw [q]; exact List.mem_singleton.mpr rfl)⟩
theorem dgs_nil : PGs X [] (tGds b []) := by
  refine weakGs pgs_nil fun v σ H Q ⟨F, ρ, ds, k, r, h⟩ => ?_
  cases ds with
  | nil =>
    unfold RepL at r
    unfold bindTs at h
    exact ⟨r, h σ k ⟨rfl, fun _ _ => rfl⟩⟩
  | cons d ds => unfold bindTs at h; exact h.elim
theorem dgs_cons {e : Expr} {es : List Expr} {t : Tg} {ts : List Tg} (h1 : PG X e (tGd b t)) (h2 : PGs X es (tGds b ts)) (hs : (assignEach (e :: es) X.env).map (·.2) = assign e X.env :: (assignEach es X.env).map (·.2) := by rfl) : PGs X (e :: es) (tGds b (t :: ts)) := by
  refine weakGs (pgs_cons h1 h2 hs) fun v σ H Q ⟨F, ρ, ds, k, r, h⟩ => ?_
  cases ds with
  | nil => unfold bindTs at h; exact h.elim
  | cons d ds =>
    unfold RepL at r
    obtain ⟨v, vs, rfl, q1, q2⟩ := r
    refine ⟨v, vs, rfl, F, ρ, d, k, q1, ?_⟩
    unfold bindTs M.bnd at h
    cases e : bindT t d ρ with
    | no => rw [e] at h; exact h.elim
    | ex x ρ' => rw [e] at h; exact h.elim
    | ok u ρ' =>
      rw [e] at h
      refine fun σ' k' o1 => ⟨F, ρ', ds, k', q2, ?_⟩
      have h : match bindTs ts ds ρ' with
        | .ok _ ρ' => ∀ σ'', Ok b ρ' F H σ'' → Out (Tg.slotsL (t :: ts)) σ σ'' → Q σ'' H
        | _ => False := h
      cases e2 : bindTs ts ds ρ' with
      | no => rw [e2] at h; exact h.elim
      | ex x ρ2 => rw [e2] at h; exact h.elim
      | ok u ρ2 =>
        rw [e2] at h
        refine fun σ'' k'' o2 => h σ'' k'' ⟨o2.1.trans o1.1, fun j hj => ?_⟩
        have hj' : j ∉ t.slots ++ Tg.slotsL ts := hj
        rw [List.mem_append, not_or] at hj'
        rw [o2.2 j hj'.2, o1.2 j hj'.1]
theorem dg_tup {es : List Expr} {j : Nat} {ts : List Tg} (hl : ts.length = es.length) (fit : Fit X b) (hc : X.calm = true) (h : PGs X es (tGds b ts)) (hn : (assignEach es X.env).length = ts.length := by rfl) (hst : (assignEach es X.env).findIdx? (·.1) = none := by rfl) :
    PG X (.Tuple es j pos) (tGd b (.tp ts)) := by
  refine weakG (pg_tup hc h hn hst) fun v σ H Q ⟨F, ρ, d, k, r, h⟩ => ?_
  unfold bindT Tg.slots at h
  cases d with
  | tup ds =>
    unfold Rep at r
    obtain ⟨a, xs, rfl, q, l⟩ := r
    have hlen : ∀ {ts : List Tg} {ds : List D} {ρ : Env}, (match bindTs ts ds ρ with | .ok _ _ => True | _ => False) → ds.length = ts.length := by
      intro ts
      induction ts with
      | nil =>
        intro ds ρ h
        cases ds with
        | nil => rfl
        | cons d ds => unfold bindTs at h; exact h.elim
      | cons t ts ih =>
        intro ds ρ h
        cases ds with
        | nil => unfold bindTs at h; exact h.elim
        | cons d ds =>
          unfold bindTs M.bnd at h
          cases e : bindT t d ρ with
          | no => rw [e] at h; exact h.elim
          | ex x ρ' => rw [e] at h; exact h.elim
          | ok u ρ' =>
            rw [e] at h
            rw [List.length_cons, List.length_cons, ih h]
    refine ⟨a, xs, rfl, ?_, ?_, F, ρ, ds, k, l, h⟩
    · rw [← fit.K]
      rcases q with (q | ⟨o, q⟩) | q
      · rcases k.sub _ _ q with z | ⟨_, _, z, _⟩
        · exact .inl (.inl z)
        · cases z
      · rcases k.sub _ _ q with z | ⟨_, _, z, _⟩
        · exact .inl (.inr ⟨o, z⟩)
        · cases z
      · exact .inr q
    · rw [← l.len]
      refine hlen (ρ := ρ) ?_
      have h : match bindTs ts ds ρ with
        | .ok _ ρ' => ∀ σ', Ok b ρ' F H σ' → Out (Tg.slotsL ts) σ σ' → Q σ' H
        | _ => False := h
      cases e : bindTs ts ds ρ with
      | no => rw [e] at h; exact h.elim
      | ex x ρ' => rw [e] at h; exact h.elim
      | ok u ρ' => trivial
  | _ => exact h.elim
mutual
theorem bindT_noex : ∀ (t : Tg) (d : D) (ρ : Env), (∃ e ρ', bindT t d ρ = .ex e ρ') → False
  | .nm i, d, ρ, ⟨e, ρ', h⟩ => by
    unfold bindT setFz at h
    split at h
    · split at h <;> cases h
    · cases h
  | .tp l, d, ρ, ⟨e, ρ', h⟩ => by
    unfold bindT at h
    cases d with
    | tup ds => exact bindTs_noex l ds ρ ⟨e, ρ', h⟩
    | _ => cases h
theorem bindTs_noex : ∀ (t : List Tg) (d : List D) (ρ : Env), (∃ e ρ', bindTs t d ρ = .ex e ρ') → False
  | [], [], ρ, ⟨e, ρ', h⟩ => by unfold bindTs at h; cases h
  | [], _ :: _, ρ, ⟨e, ρ', h⟩ => by unfold bindTs at h; cases h
  | _ :: _, [], ρ, ⟨e, ρ', h⟩ => by unfold bindTs at h; cases h
  | t :: ts, d :: ds, ρ, ⟨e, ρ', h⟩ => by
    unfold bindTs M.bnd at h
    cases e1 : bindT t d ρ with
    | no => rw [e1] at h; cases h
    | ex x ρ2 => exact bindT_noex t d ρ ⟨x, ρ2, e1⟩
    | ok u ρ2 =>
      rw [e1] at h
      exact bindTs_noex ts ds ρ2 ⟨e, ρ', h⟩
end
/-- target = value, the value frozen -/
def mAsgT (t : Tg) (φ : M AV) : M Ctl := φ.bnd fun av => (frz av).bnd fun d => (bindT t d).bnd fun _ => M.ret .nx
theorem ds_asg {tg e : Expr} {φ : M AV} {t : Tg} (he : PE X e (tE b W φ)) (hg : PG X tg (tGd b t)) (hs : swapsWithSole [tg] e pos.line X.env = pure false := by rfl) (hw : swappedStores [tg] e X.env = pure none := by rfl)
    (h1 : (assignEach [tg] X.env).map (·.2) = [assign tg X.env] := by rfl) : PS X (.Assign [tg] e pos) (tS b W (mAsgT t φ)) := by
  refine weakS (ps_asg he hg hs hw h1) fun D σ H ⟨F, ρ, k, h⟩ => ?_
  refine runSE k h fun av v ρ1 F1 H1 k1 s1 r1 h1 => ?_
  obtain ⟨d, ρ2, F2, k2, s2, q2, h2⟩ := Then.froze k1 r1 h1
  refine ⟨F2, ρ2, d, k2, q2, ?_⟩
  unfold M.bnd at h2
  cases e : bindT t d ρ2 with
  | no => rw [e] at h2; exact h2.elim
  | ex x ρ' => exact (bindT_noex t d ρ2 ⟨x, ρ', e⟩).elim
  | ok u ρ' =>
    rw [e] at h2
    exact fun σ' k' _ => h2 σ' F2 H1 k' (Same.refl _)
end
end DL

namespace DL
open PySem PySem.Spec L2

/-! ### loops -/
def JOk (b : Bs) (F : Hp) (J : It) (ds : List D) : Prop := ∀ F2 H2, Same F F2 → Sub F2 H2 →
  (∀ (i : Nat) (d : D), ds[i]? = some d → J.go i H2 ∧ ∀ x H', J.yld i H2 x H' → ∃ F3, Grow F2 H2 F3 H' ∧ Rep b.K b.mg F3 d x) ∧ J.stop ds.length H2
def tI (b : Bs) (W : WX) (φ : M (List D)) : TI := fun σ H R => ∃ F ρ, Ok b ρ F H σ ∧ After b W σ F (φ ρ) fun ds ρ' F' H' => ∀ J, JOk b F' J ds → R J H'
def signD (c : Nat) : D := .str ⟨#[c]⟩
def itemsOf : D → M (List D)
  | .lst ds => M.ret ds
  | .tup ds => M.ret ds
  | .str s => M.ret (s.cps.toList.map signD)
  | .scr ns => M.ret (ns.map .int)
  | _ => M.stuck
def mItems (φ : M AV) : M (List D) := φ.bnd fun av => (frz av).bnd itemsOf
def rangeD (lo : Int) (n : Nat) : List D := (List.range n).map fun (k : Nat) => D.int (lo + k)
def range1 : List D → M (List D)
  | [.int j] => if -(2 ^ 62) ≤ j ∧ j < 2 ^ 62 then M.ret (rangeD 0 j.toNat) else M.stuck
  | _ => M.stuck
def range2 : List D → M (List D)
  | [.int i, .int j] => if -(2 ^ 62) ≤ i ∧ i < 2 ^ 62 ∧ -(2 ^ 62) ≤ j ∧ j < 2 ^ 62 then M.ret (rangeD i (j - i).toNat) else M.stuck
  | _ => M.stuck
def mIt (f : List D → M (List D)) (φ : M (List AV)) : M (List D) := φ.bnd fun avs => (rdAll avs).bnd f
/-- enumerate of a list -/
def enumFrom (n : Int) : List D → List D
  | [] => []
  | d :: ds => .tup [.int n, d] :: enumFrom (n + 1) ds
def enum0 : List D → M (List D)
  | [.lst ds] => M.ret (enumFrom 0 ds)
  | _ => M.stuck
def zipD : List D → List D → List D
  | a :: r, c :: s => .tup [a, c] :: zipD r s
  | _, _ => []
def zip2 : List D → M (List D)
  | [.lst ds, .lst es] => M.ret (zipD ds es)
  | _ => M.stuck
def loopF (t : Tg) (body : M Ctl) : List D → M Ctl
  | [] => M.ret .nx
  | d :: ds => (bindT t d).bnd fun _ => fun ρ => match body ρ with
    | .ok .nx ρ' => loopF t body ds ρ'
    | .ok .ct ρ' => loopF t body ds ρ'
    | .ok .bk ρ' => .ok .nx ρ'
    | r => r
def mFor (items : M (List D)) (t : Tg) (body : M Ctl) : M Ctl := items.bnd (loopF t body)
def mWhile (t : M Bool) (body : M Ctl) : Nat → M Ctl
  | 0 => M.stuck
  | n + 1 => t.bnd fun k => if k then (fun ρ => match body ρ with
    | .ok .nx ρ' => mWhile t body n ρ'
    | .ok .ct ρ' => mWhile t body n ρ'
    | .ok .bk ρ' => .ok .nx ρ'
    | r => r) else M.ret .nx

theorem supI {X : Cx} {tg iter : Expr} {wi' : TI} (h : ∀ σ H R, wi' σ H R → ∃ wi, PI X tg iter wi ∧ wi σ H R) : PI X tg iter wi' := ⟨fun pins s σ H R I q => by
  obtain ⟨wi, p, z⟩ := h σ H R q
  exact p.run pins s σ H R I z⟩
theorem supE {X : Cx} {e : Expr} {t' : TE} (h : ∀ σ H Q, t' σ H Q → ∃ t, PE X e t ∧ t σ H Q) : PE X e t' := ⟨fun pins s σ H R I q => by
  obtain ⟨wi, p, z⟩ := h σ H R q
  exact p.run pins s σ H R I z⟩
theorem weakI {X : Cx} {tg iter : Expr} {t t' : TI} (h : PI X tg iter t) (i : ∀ σ H Q, t' σ H Q → t σ H Q) : PI X tg iter t' := ⟨fun pins s σ H Q I q => h.run pins s σ H Q I (i _ _ _ q)⟩
/-- what a frozen list is, in the heap -/
theorem Sub.lst {F H : Hp} (s : Sub F H) {a : Addr} {xs : List V} (h : F a = some (.lst xs)) : H a = some (.lst xs) := by
  rcases s a _ h with z | ⟨_, _, z, _⟩
  · exact z
  · cases z
theorem Sub.ins {F H : Hp} (s : Sub F H) {a C dx : Addr} {xs : List (Str × V)} (h : F a = some (.ins C dx xs)) : H a = some (.ins C dx xs) := by
  rcases s a _ h with z | ⟨_, _, z, _⟩
  · exact z
  · cases z
theorem Sub.dK {F H : Hp} (s : Sub F H) {a : Addr} {xs : List (Key × V)} (h : F a = some (.dK xs)) : Rd H a (.dK xs) := by
  rcases s a _ h with z | ⟨ob, _, z, y⟩
  · exact .inl z
  · exact .inr ⟨ob, y⟩
theorem Sub.sqT {F H : Hp} (s : Sub F H) {K : PySem.W.Frag} {a : Addr} {xs : List V} (h : SqT K F a xs) : SqT K H a xs := by
  rcases h with (q | ⟨o, q⟩) | q
  · rcases s _ _ q with z | ⟨_, _, z, _⟩
    · exact .inl (.inl z)
    · cases z
  · rcases s _ _ q with z | ⟨_, _, z, _⟩
    · exact .inl (.inr ⟨o, z⟩)
    · cases z
  · exact .inr q
theorem Sub.sqL {F H : Hp} (s : Sub F H) {K : PySem.W.Frag} {a : Addr} {xs : List V} (h : SqL K F a xs) : SqL K H a xs := by
  rcases h with (q | ⟨o, q⟩) | q
  · rcases s _ _ q with z | ⟨_, _, z, _⟩
    · exact .inl (.inl z)
    · cases z
  · rcases s _ _ q with z | ⟨_, _, z, _⟩
    · exact .inl (.inr ⟨o, z⟩)
    · cases z
  · exact .inr q
theorem RepL.get {K : PySem.W.Frag} {mg : Str → Option Value} {F : Hp} : ∀ {ds : List D} {vs : List V} {i : Nat} {d : D}, RepL K mg F ds vs → ds[i]? = some d → ∃ v, vs[i]? = some v ∧ Rep K mg F d v
  | [], _, _, _, _, e => by cases e
  | d :: ds, _, 0, _, r, e => by
    unfold RepL at r
    obtain ⟨v, s, rfl, q, _⟩ := r
    cases e
    exact ⟨v, rfl, q⟩
  | d :: ds, _, i + 1, _, r, e => by
    unfold RepL at r
    obtain ⟨v, s, rfl, _, q⟩ := r
    exact RepL.get (i := i) q e
theorem RepL.map {K : PySem.W.Frag} {mg : Str → Option Value} {F : Hp} {α : Type} {f : α → D} {g : α → V} (h : ∀ a, Rep K mg F (f a) (g a)) : ∀ (l : List α), RepL K mg F (l.map f) (l.map g)
  | [] => by unfold RepL; rfl
  | a :: l => by
    show RepL K mg F (f a :: l.map f) (g a :: l.map g)
    unfold RepL
    exact ⟨_, _, rfl, h a, RepL.map h l⟩

section
variable {X : Cx} {b : Bs} {W : WX} {pos : Pos}
theorem jok_list {F : Hp} {a : Addr} {xs : List V} {ds : List D} {K : PySem.W.Frag} (h : SqL K F a xs) (r : RepL b.K b.mg F ds xs) (inj : ∀ H2 F2, Same F F2 → Sub F2 H2 → ∀ ys, SqL K H2 a ys → ys = xs) : JOk b F (Itl K a) ds := by
  intro F2 H2 s2 sb
  have q : SqL K H2 a xs := sb.sqL (s2.seq h)
  refine ⟨fun i d e => ?_, ⟨xs, q, by rw [r.len]; exact Nat.le_refl _⟩⟩
  obtain ⟨v, ev, rv⟩ := r.get e
  refine ⟨⟨xs, v, q, ev⟩, fun x H' y => ?_⟩
  obtain ⟨rfl, y⟩ := y
  have := y xs q
  rw [ev] at this
  cases this
  exact ⟨F2, Grow.refl sb, rv.mono s2⟩
theorem di_seq {tg e : Expr} {φ : M AV} (fit : Fit X b) (he : PE X e (tE b W φ)) (hc : X.calm = true := by rfl) : PI X tg e (tI b W (mItems φ)) := by
  refine supI fun σ H R ⟨F, ρ, k, h⟩ => ?_
  unfold mItems M.bnd at h
  have base : ∀ wi : TI, (∀ σ H R, (∃ F ρ, Ok b ρ F H σ ∧ After b W σ F (φ ρ) fun _ _ _ _ => False) → wi σ H R) → True := fun _ _ => trivial
  have dead : ∀ (hh : After b W σ F (φ ρ) fun _ _ _ _ => False), iList X.K (tE b W φ) σ H R := fun hh =>
    ⟨F, ρ, k, hh.imp fun _ _ _ _ _ _ z => z.elim⟩
  cases e1 : φ ρ with
  | no => rw [e1] at h; exact h.elim
  | ex x ρ' =>
    rw [e1] at h
    exact ⟨_, pi_list he, dead (by rw [e1]; exact h)⟩
  | ok av ρ1 =>
    rw [e1] at h
    have h : After b W σ F (((frz av).bnd itemsOf) ρ1) _ := h
    -- the data
    have run : ∀ {R' : V → Hp → Prop}, (∀ v F1 H1 d ρ2 F2, Ok b ρ2 F2 H1 σ → Same F F2 → Rep b.K b.mg F2 d v → frz av ρ1 = .ok d ρ2 → After b W σ F2 (itemsOf d ρ2) (fun ds ρ' F' H' => ∀ J, JOk b F' J ds → R J H') → R' v H1) → tE b W φ σ H R' := fun {R'} i => by
      refine ⟨F, ρ, k, ?_⟩
      rw [e1]
      intro F1 H1 k1 s1 v r1
      have h1 := h.later s1
      unfold M.bnd at h1
      cases e2 : frz av ρ1 with
      | no => rw [e2] at h1; exact h1.elim
      | ex x ρ2 =>
        cases av with
        | fz d => cases e2
        | ow d => cases e2
        | sl i =>
          dsimp only [frz] at e2
          split at e2 <;> cases e2
      | ok d ρ2 =>
        rw [e2] at h1
        obtain ⟨F2, k2, s2, q2⟩ := k1.froze r1 e2
        exact i v F1 H1 d ρ2 F2 k2 (s1.trans s2) q2 e2 (After.later (show After b W σ F1 (itemsOf d ρ2) _ from h1) s2)
    cases e2 : frz av ρ1 with
    | no =>
      unfold M.bnd at h
      rw [e2] at h; exact h.elim
    | ex x ρ2 =>
      unfold M.bnd at h
      rw [e2] at h
      cases av with
      | fz d => cases e2
      | ow d => cases e2
      | sl i =>
        dsimp only [frz] at e2
        split at e2 <;> cases e2
    | ok d ρ2 =>
      have hd : ∀ {d' ρ'}, frz av ρ1 = .ok d' ρ' → d' = d ∧ ρ' = ρ2 := fun {d' ρ'} z => by
        rw [e2] at z; cases z; exact ⟨rfl, rfl⟩
      cases d with
      | lst ds =>
        refine ⟨_, pi_list he, run fun v F1 H1 d ρ3 F2 k2 s2 q2 e3 h3 => ?_⟩
        obtain ⟨rfl, rfl⟩ := hd e3
        unfold Rep at q2
        obtain ⟨a, xs, rfl, q, l⟩ := q2
        refine ⟨a, rfl, ⟨xs, SqL.of (k2.sub.lst q)⟩, h3 F2 H1 k2 (Same.refl _) _ ?_⟩
        intro F3 H3 s3 sb
        have z : H3 a = some (.lst xs) := sb.lst (s3 _ _ q)
        refine ⟨fun i d e => ?_, ⟨xs, SqL.of z, by rw [l.len]; exact Nat.le_refl _⟩⟩
        obtain ⟨v, ev, rv⟩ := l.get e
        refine ⟨⟨xs, v, SqL.of z, ev⟩, fun x H' y => ?_⟩
        obtain ⟨rfl, y⟩ := y
        have := y xs (SqL.of z)
        rw [ev] at this
        cases this
        exact ⟨F3, Grow.refl sb, rv.mono s3⟩
      | scr ns =>
        refine ⟨_, pi_list he, run fun v F1 H1 d ρ3 F2 k2 s2 q2 e3 h3 => ?_⟩
        obtain ⟨rfl, rfl⟩ := hd e3
        unfold Rep at q2
        obtain ⟨a, rfl, q⟩ := q2
        rw [fit.K] at q
        refine ⟨a, rfl, ⟨_, k2.sub.sqL q⟩, h3 F2 H1 k2 (Same.refl _) _ ?_⟩
        intro F3 H3 s3 sb
        have z : SqL X.K H3 a (ns.map V.int) := sb.sqL (s3.seq q)
        have l : RepL b.K b.mg F3 (ns.map D.int) (ns.map V.int) := RepL.map (fun i => by unfold Rep; rfl) ns
        refine ⟨fun i d e => ?_, ⟨_, z, by rw [l.len]; exact Nat.le_refl _⟩⟩
        obtain ⟨v, ev, rv⟩ := l.get e
        refine ⟨⟨_, v, z, ev⟩, fun x H' y => ?_⟩
        obtain ⟨rfl, y⟩ := y
        have := y _ z
        rw [ev] at this
        cases this
        exact ⟨F3, Grow.refl sb, rv⟩
      | tup ds =>
        refine ⟨_, pi_tup he, run fun v F1 H1 d ρ3 F2 k2 s2 q2 e3 h3 => ?_⟩
        obtain ⟨rfl, rfl⟩ := hd e3
        unfold Rep at q2
        obtain ⟨a, xs, rfl, q, l⟩ := q2
        rw [fit.K] at q
        refine ⟨a, rfl, ⟨xs, k2.sub.sqT q⟩, h3 F2 H1 k2 (Same.refl _) _ ?_⟩
        intro F3 H3 s3 sb
        have z : SqT X.K H3 a xs := sb.sqT (sqT_mono s3 q)
        refine ⟨fun i d e => ?_, ⟨xs, z, by rw [l.len]; exact Nat.le_refl _⟩⟩
        obtain ⟨v, ev, rv⟩ := l.get e
        refine ⟨⟨xs, v, z, ev⟩, fun x H' y => ?_⟩
        obtain ⟨rfl, y⟩ := y
        have := y xs z
        rw [ev] at this
        cases this
        exact ⟨F3, Grow.refl sb, rv.mono s3⟩
      | str s =>
        refine ⟨_, pi_str he, run fun v F1 H1 d ρ3 F2 k2 s2 q2 e3 h3 => ?_⟩
        obtain ⟨rfl, rfl⟩ := hd e3
        unfold Rep at q2
        subst q2
        refine ⟨s, rfl, h3 F2 H1 k2 (Same.refl _) _ ?_⟩
        intro F3 H3 s3 sb
        refine ⟨fun i d e => ?_, ?_⟩
        · rw [List.getElem?_map] at e
          cases e0 : s.cps.toList[i]? with
          | none => rw [e0] at e; cases e
          | some c =>
            rw [e0] at e
            cases e
            have e0' : s.cps[i]? = some c := by simpa using e0
            refine ⟨(Array.getElem?_eq_some_iff.mp e0').1, fun x H' y => ?_⟩
            obtain ⟨rfl, c', ec, rfl⟩ := y
            rw [e0'] at ec
            cases ec
            exact ⟨F3, Grow.refl sb, by show Rep _ _ _ _ _; unfold Rep; rfl⟩
        · show s.cps.size ≤ _
          simp
      | _ =>
        unfold M.bnd at h
        rw [e2] at h
        exact h.elim
/-- read all arguments, whatever comes of it -/
theorem runI {φ : M (List AV)} {f : List D → M (List D)} {σ : St} {H F : Hp} {ρ : Env} {R : It → Hp → Prop} {R' : List V → Hp → Prop} (k : Ok b ρ F H σ) (h : After b W σ F ((φ.bnd fun avs => (rdAll avs).bnd f) ρ) fun ds ρ' F' H' => ∀ J, JOk b F' J ds → R J H')
    (i : ∀ ds vs ρ1 F1 H1, Ok b ρ1 F1 H1 σ → Same F F1 → RdL b F1 H1 ds vs → After b W σ F1 (f ds ρ1) (fun ds ρ' F' H' => ∀ J, JOk b F' J ds → R J H') → R' vs H1) : tAs b W φ σ H R' := by
  refine runA k h fun avs vs ρ1 F1 H1 k1 s1 r1 h1 => ?_
  obtain ⟨ds, q1, h2⟩ := After.readAll k1 r1 h1
  exact i ds vs ρ1 F1 H1 k1 s1 q1 h2
theorem rd_int {F H : Hp} {i : Int} {v : V} (r : Rd1 b F H (.int i) v) : v = .int i := by
  rcases r with r | ⟨a, _, oa⟩
  · unfold Rep at r; exact r
  · exact oa.elim
theorem jok_range {F : Hp} {lo : Int} {n : Nat} : JOk b F (Itr lo n) (rangeD lo n) := by
  intro F2 H2 s2 sb
  refine ⟨fun i d e => ?_, ?_⟩
  · unfold rangeD at e
    rw [List.getElem?_map] at e
    by_cases hi : i < n
    · rw [List.getElem?_range hi] at e
      cases e
      refine ⟨hi, fun x H' y => ?_⟩
      obtain ⟨rfl, rfl⟩ := y
      exact ⟨F2, Grow.refl sb, by show Rep _ _ _ _ _; unfold Rep; rfl⟩
    · rw [List.getElem?_eq_none (by simpa using hi)] at e; cases e
  · show n ≤ (rangeD lo n).length
    unfold rangeD
    simp
theorem di_range1 {tg a : Expr} {φ : M (List AV)} {p : Pos} (hm : X.mg "range" = none) (ha : PA X [a] (tAs b W φ)) (hg : Gl X "range" := by rfl) (hs : starEach [a] X.env = [(false, eval a X.env)] := by rfl) : PI X tg (.Call (.Name "range" p) [a] [] pos) (tI b W (mIt range1 φ)) := by
  refine weakI (pi_range1 hg hm ha hs) fun σ H R ⟨F, ρ, k, h⟩ => ?_
  refine runI k h fun ds vs ρ1 F1 H1 k1 s1 q h1 => ?_
  unfold range1 at h1
  split at h1
  · rename_i j
    cases q with
    | cons q1 q2 =>
      cases q2
      cases rd_int q1
      by_cases hj : -(2 ^ 62) ≤ j ∧ j < 2 ^ 62
      · rw [if_pos hj] at h1
        exact ⟨j, rfl, hj.1, hj.2, h1 F1 H1 k1 (Same.refl _) _ jok_range⟩
      · rw [if_neg hj] at h1; exact h1.elim
  · exact h1.elim
theorem di_range2 {tg a c : Expr} {φ : M (List AV)} {p : Pos} (hm : X.mg "range" = none) (ha : PA X [a, c] (tAs b W φ)) (hg : Gl X "range" := by rfl) (hs : starEach [a, c] X.env = [(false, eval a X.env), (false, eval c X.env)] := by rfl) (hs2 : starEach [c] X.env = [(false, eval c X.env)] := by rfl) : PI X tg (.Call (.Name "range" p) [a, c] [] pos) (tI b W (mIt range2 φ)) := by
  refine weakI (pi_range2 hg hm ha hs hs2) fun σ H R ⟨F, ρ, k, h⟩ => ?_
  refine runI k h fun ds vs ρ1 F1 H1 k1 s1 q h1 => ?_
  unfold range2 at h1
  split at h1
  · rename_i i j
    cases q with
    | cons q1 q2 =>
      cases q2 with
      | cons q2 q3 =>
        cases q3
        cases rd_int q1
        cases rd_int q2
        by_cases hj : -(2 ^ 62) ≤ i ∧ i < 2 ^ 62 ∧ -(2 ^ 62) ≤ j ∧ j < 2 ^ 62
        · rw [if_pos hj] at h1
          exact ⟨i, j, rfl, hj, h1 F1 H1 k1 (Same.refl _) _ jok_range⟩
        · rw [if_neg hj] at h1; exact h1.elim
  · exact h1.elim
/-- a list that is read: it stands while the loop runs, if it is frozen -/
theorem enumFrom_get : ∀ {ds : List D} {n : Int} {i : Nat} {d : D}, (enumFrom n ds)[i]? = some d → ∃ e, ds[i]? = some e ∧ d = .tup [.int (n + i), e]
  | [], _, _, _, h => by unfold enumFrom at h; cases h
  | e :: ds, n, 0, d, h => by
    unfold enumFrom at h
    cases h
    exact ⟨e, rfl, by simp⟩
  | e :: ds, n, i + 1, d, h => by
    unfold enumFrom at h
    obtain ⟨c, h1, h2⟩ := enumFrom_get (i := i) h
    refine ⟨c, h1, ?_⟩
    rw [h2]
    congr 3
    omega
theorem enumFrom_len : ∀ {ds : List D} {n : Int}, (enumFrom n ds).length = ds.length
  | [], _ => rfl
  | e :: ds, n => by unfold enumFrom; rw [List.length_cons, List.length_cons, enumFrom_len]
theorem rep_tup2 {K : PySem.W.Frag} {mg : Str → Option Value} {F : Hp} {p : Addr} {d e : D} {v u : V} (h : F p = some (.tup [v, u])) (h1 : Rep K mg F d v) (h2 : Rep K mg F e u) : Rep K mg F (.tup [d, e]) (.ref p) := by
  unfold Rep
  refine ⟨p, [v, u], rfl, SqT.of h, ?_⟩
  unfold RepL
  refine ⟨v, [u], rfl, h1, ?_⟩
  unfold RepL
  refine ⟨u, [], rfl, h2, ?_⟩
  unfold RepL
  rfl
/-- the arguments are frozen -/
theorem runIf {φ : M (List AV)} {f : List D → M (List D)} {σ : St} {H F : Hp} {ρ : Env} {R : It → Hp → Prop} {R' : List V → Hp → Prop} (k : Ok b ρ F H σ) (h : After b W σ F ((φ.bnd fun avs => (frzAll avs).bnd f) ρ) fun ds ρ' F' H' => ∀ J, JOk b F' J ds → R J H')
    (i : ∀ ds vs ρ1 F1 H1, Ok b ρ1 F1 H1 σ → RepL b.K b.mg F1 ds vs → After b W σ F1 (f ds ρ1) (fun ds ρ' F' H' => ∀ J, JOk b F' J ds → R J H') → R' vs H1) : tAs b W φ σ H R' := by
  refine runA k h fun avs vs ρ1 F1 H1 k1 s1 r1 h1 => ?_
  obtain ⟨ds, ρ2, F2, k2, s2, q2, h2⟩ := After.frozeAll r1 k1 (Same.refl _) h1
  exact i ds vs ρ2 F2 H1 k2 q2 h2
def mItf (f : List D → M (List D)) (φ : M (List AV)) : M (List D) := φ.bnd fun avs => (frzAll avs).bnd f
theorem di_enum {e : Expr} {elts : List Expr} {kk : Nat} {tpos : Pos} {φ : M (List AV)} {p : Pos} (hm : X.mg "enumerate" = none) (ha : PA X [e] (tAs b W φ)) (hg : Gl X "enumerate" := by rfl) (hs : starEach [e] X.env = [(false, eval e X.env)] := by rfl) :
    PI X (.Tuple elts kk tpos) (.Call (.Name "enumerate" p) [e] [] pos) (tI b W (mItf enum0 φ)) := by
  refine weakI (pi_enum hg hm ha hs) fun σ H R ⟨F, ρ, k, h⟩ => ?_
  refine runIf k h fun ds vs ρ1 F1 H1 k1 q h1 => ?_
  unfold enum0 at h1
  split at h1
  · rename_i ds
    unfold RepL at q
    obtain ⟨v, s, rfl, q1, q2⟩ := q
    unfold RepL at q2
    subst q2
    unfold Rep at q1
    obtain ⟨a, xs, rfl, qa, l⟩ := q1
    refine ⟨a, xs, rfl, SqL.of (k1.sub.lst qa), h1 F1 H1 k1 (Same.refl _) _ ?_⟩
    intro F3 H3 s3 sb
    have z : H3 a = some (.lst xs) := sb.lst (s3 _ _ qa)
    refine ⟨fun i d e => ?_, ⟨xs, SqL.of z, by rw [enumFrom_len, l.len]; exact Nat.le_refl _⟩⟩
    obtain ⟨c, ec, rfl⟩ := enumFrom_get e
    obtain ⟨v, ev, rv⟩ := l.get ec
    refine ⟨⟨xs, v, SqL.of z, ev⟩, fun x H' y => ?_⟩
    obtain ⟨T, u, rfl, hT, rfl, y⟩ := y
    have := y xs (SqL.of z)
    rw [ev] at this
    cases this
    have g := Grow.frozen (o := .tup [.int (i : Nat), v]) sb hT
    refine ⟨_, g, rep_tup2 upd_same ?_ (rv.mono (s3.trans g.ext))⟩
    unfold Rep
    rw [Int.zero_add]
  · exact h1.elim
theorem zipD_get : ∀ {ds es : List D} {i : Nat} {d : D}, (zipD ds es)[i]? = some d → ∃ a c, ds[i]? = some a ∧ es[i]? = some c ∧ d = .tup [a, c]
  | [], _, _, _, h => by unfold zipD at h; cases h
  | _ :: _, [], _, _, h => by unfold zipD at h; cases h
  | a :: ds, c :: es, 0, d, h => by
    unfold zipD at h
    cases h
    exact ⟨a, c, rfl, rfl, rfl⟩
  | a :: ds, c :: es, i + 1, d, h => by
    unfold zipD at h
    exact zipD_get (i := i) (ds := ds) (es := es) h
theorem zipD_len : ∀ {ds es : List D}, ds.length ≤ (zipD ds es).length ∨ es.length ≤ (zipD ds es).length
  | [], _ => .inl (Nat.zero_le _)
  | _ :: _, [] => .inr (Nat.zero_le _)
  | a :: ds, c :: es => by
    unfold zipD
    rcases zipD_len (ds := ds) (es := es) with h | h
    · exact .inl (Nat.succ_le_succ h)
    · exact .inr (Nat.succ_le_succ h)
theorem di_zip {e e2 : Expr} {elts : List Expr} {kk : Nat} {tpos : Pos} {φ : M (List AV)} {p : Pos} (hm : X.mg "zip" = none) (ha : PA X [e, e2] (tAs b W φ)) (hg : Gl X "zip" := by rfl) (hs : starEach [e, e2] X.env = (false, eval e X.env) :: starEach [e2] X.env := by rfl) (hpl : (backTo pos (starEach [e2] X.env)).any (·.1) = false := by rfl) :
    PI X (.Tuple elts kk tpos) (.Call (.Name "zip" p) [e, e2] [] pos) (tI b W (mItf zip2 φ)) := by
  refine weakI (pi_zip hg hm ha hs hpl) fun σ H R ⟨F, ρ, k, h⟩ => ?_
  refine runIf k h fun ds vs ρ1 F1 H1 k1 q h1 => ?_
  unfold zip2 at h1
  split at h1
  · rename_i ds es
    unfold RepL at q
    obtain ⟨v, s, rfl, q1, q2⟩ := q
    unfold RepL at q2
    obtain ⟨v2, s, rfl, q2, q3⟩ := q2
    unfold RepL at q3
    subst q3
    unfold Rep at q1 q2
    obtain ⟨a, xs, rfl, qa, l⟩ := q1
    obtain ⟨c, ys, rfl, qc, m⟩ := q2
    refine ⟨a, c, xs, ys, rfl, SqL.of (k1.sub.lst qa), SqL.of (k1.sub.lst qc), h1 F1 H1 k1 (Same.refl _) _ ?_⟩
    intro F3 H3 s3 sb
    have z : H3 a = some (.lst xs) := sb.lst (s3 _ _ qa)
    have z2 : H3 c = some (.lst ys) := sb.lst (s3 _ _ qc)
    refine ⟨fun i d e => ?_, ⟨xs, ys, SqL.of z, SqL.of z2, by rw [← l.len, ← m.len]; exact zipD_len⟩⟩
    obtain ⟨d1, d2, e1, e2, rfl⟩ := zipD_get e
    obtain ⟨v, ev, rv⟩ := l.get e1
    obtain ⟨u, eu, ru⟩ := m.get e2
    refine ⟨⟨xs, ys, v, u, SqL.of z, SqL.of z2, ev, eu⟩, fun x H' y => ?_⟩
    obtain ⟨T, v', u', rfl, hT, rfl, y1, y2⟩ := y
    have h1 := y1 xs (SqL.of z)
    rw [ev] at h1; cases h1
    have h2 := y2 ys (SqL.of z2)
    rw [eu] at h2; cases h2
    have g := Grow.frozen (o := .tup [v, u]) sb hT
    exact ⟨_, g, rep_tup2 upd_same (rv.mono (s3.trans g.ext)) (ru.mono (s3.trans g.ext))⟩
  · exact h1.elim

/-! ### for -/
theorem ds_for {tg iter : Expr} {body : List Stmt} {ιs : M (List D)} {t : Tg} {φ : M Ctl} (hp : PassesOwn (model X.prog X.w) X.A X.env X.xe) (hi : PI X tg iter (tI b W ιs)) (hg : PG X tg (tGd b t)) (hb : PSs X body (tS b W φ)) (hc : X.calm = true := by rfl)
    (hs : ∀ x, foldedSetIterable iter X.env x = pure x := by intro _; rfl) : PS X (.For tg iter body [] pos) (tS b W (mFor ιs t φ)) := by
  refine weakS (ps_for hp hc hi hg hb hs) fun D σ H ⟨F, ρ, k, h⟩ => ?_
  refine ⟨F, ρ, k, ?_⟩
  refine (Then.bnd h).imp fun ds ρ1 F1 H1 k1 s1 ⟨_, h1⟩ J hJ => ?_
  refine ⟨fun i m σ H => m = ds.length - i ∧ i ≤ ds.length ∧ ∃ F2 ρ2, Ok b ρ2 F2 H σ ∧ Same F1 F2 ∧ Then b W F2 (loopF t φ (ds.drop i) ρ2) D, ⟨ds.length, rfl, Nat.zero_le _, F1, ρ1, k1, Same.refl _, h1⟩, ?_⟩
  rintro i m σ2 H2 ⟨rfl, hi, F2, ρ2, k2, s2, h2⟩
  obtain ⟨go, stop⟩ := hJ F2 H2 s2 k2.sub
  by_cases hlt : i < ds.length
  · obtain ⟨g1, g2⟩ := go i ds[i] (List.getElem?_eq_getElem hlt)
    refine .inr ⟨g1, fun σ' H' => ∃ F3 ρ3, Ok b ρ3 F3 H' σ' ∧ Same F2 F3 ∧ Then b W F3 (loopF t φ (ds.drop (i + 1)) ρ3) D, fun σ' H' ⟨F3, ρ3, k3, s3, h3⟩ => ⟨ds.length - (i + 1), by omega, rfl, hlt, F3, ρ3, k3, s2.trans s3, h3⟩, fun x H' y => ?_⟩
    obtain ⟨F3, gr, rx⟩ := g2 x H' y
    have e : ds.drop i = ds[i] :: ds.drop (i + 1) := List.drop_eq_getElem_cons hlt
    rw [e] at h2
    unfold loopF M.bnd at h2
    refine ⟨F3, ρ2, ds[i], k2.grow gr, rx, ?_⟩
    cases eb : bindT t ds[i] ρ2 with
    | no => rw [eb] at h2; exact h2.elim
    | ex x ρ' => exact (bindT_noex _ _ _ ⟨x, ρ', eb⟩).elim
    | ok u ρ3 =>
      rw [eb] at h2
      intro σ' k' _
      refine ⟨F3, ρ3, k', ?_⟩
      have h2 : Then b W F2 (match φ ρ3 with
        | .ok .nx ρ' => loopF t φ (ds.drop (i + 1)) ρ'
        | .ok .ct ρ' => loopF t φ (ds.drop (i + 1)) ρ'
        | .ok .bk ρ' => .ok .nx ρ'
        | r => r) D := h2
      cases ep : φ ρ3 with
      | no => rw [ep] at h2; exact h2.elim
      | ex x ρ' =>
        rw [ep] at h2
        exact fun c dd σ'' F' H' k'' s'' => h2 c dd σ'' F' H' k'' (gr.ext.trans s'')
      | ok c ρ' =>
        rw [ep] at h2
        cases c with
        | nx => exact fun σ'' F' H' k'' s'' => ⟨F', ρ', k'', gr.ext.trans s'', Then.later h2 (gr.ext.trans s'')⟩
        | ct => exact fun σ'' F' H' k'' s'' => ⟨F', ρ', k'', gr.ext.trans s'', Then.later h2 (gr.ext.trans s'')⟩
        | bk => exact fun σ'' F' H' k'' s'' => h2 σ'' F' H' k'' (gr.ext.trans s'')
        | rt av => exact fun v σ'' F' H' k'' s'' => h2 v σ'' F' H' k'' (gr.ext.trans s'')
  · have hi' : i = ds.length := by omega
    subst hi'
    refine .inl ⟨stop, ?_⟩
    rw [List.drop_length] at h2
    exact h2 σ2 F2 H2 k2 (Same.refl _)
/-! ### while -/
theorem ds_while {c : Expr} {body : List Stmt} {τ : M Bool} {φ : M Ctl} (n : Nat) (hp : PassesOwn (model X.prog X.w) X.A X.env X.xe) (hc : PT X c (tT b W τ)) (hb : PSs X body (tS b W φ)) : PS X (.While c body [] pos) (tS b W (mWhile τ φ n)) := by
  refine weakS (ps_while hp hc hb) fun D σ H ⟨F, ρ, k, h⟩ => ?_
  refine ⟨fun m σ H => ∃ F ρ, Ok b ρ F H σ ∧ Then b W F (mWhile τ φ m ρ) D, ⟨n, F, ρ, k, h⟩, fun m σ H ⟨F, ρ, k, h⟩ => ?_⟩
  cases m with
  | zero => exact h.elim
  | succ m =>
    refine runST k h fun cc ρ1 F1 H1 k1 s1 h1 => ?_
    cases cc with
    | false => exact iteF (h1 σ F1 H1 k1 (Same.refl _))
    | true =>
      refine iteT ⟨fun σ H => ∃ F ρ, Ok b ρ F H σ ∧ Then b W F (mWhile τ φ m ρ) D, fun σ' H' z => ⟨m, Nat.lt_succ_self _, z⟩, F1, ρ1, k1, ?_⟩
      have h1 : Then b W F1 (match φ ρ1 with
        | .ok .nx ρ' => mWhile τ φ m ρ'
        | .ok .ct ρ' => mWhile τ φ m ρ'
        | .ok .bk ρ' => .ok .nx ρ'
        | r => r) D := h1
      cases ep : φ ρ1 with
      | no => rw [ep] at h1; exact h1.elim
      | ex x ρ' => rw [ep] at h1; exact h1
      | ok c ρ' =>
        rw [ep] at h1
        cases c with
        | nx => exact fun σ'' F' H' k'' s'' => ⟨F', ρ', k'', Then.later h1 s''⟩
        | ct => exact fun σ'' F' H' k'' s'' => ⟨F', ρ', k'', Then.later h1 s''⟩
        | bk => exact h1
        | rt av => exact h1
end
end DL

namespace DL
open PySem PySem.Spec L2

/-! ### a def's body -/
def bosF : List Sl → Env → List D
  | .bo _ :: ks, s :: ρ => (s.data?).getD .non :: bosF ks ρ
  | _ :: ks, _ :: ρ => bosF ks ρ
  | _, _ => []
def runB (N : Nat) (φ : M Ctl) : Fn := fun ks => match φ (ks ++ List.replicate (N - ks.length) .un) with
  | .ok .nx ρ => .ok false .non (bosF ks ρ)
  | .ok (.rt (.fz d)) ρ => .ok false d (bosF ks ρ)
  | .ok (.rt (.ow d)) ρ => .ok true d (bosF ks ρ)
  | .ok (.rt (.sl i)) ρ => match ρ[i]? with
    | some (.fz d) => .ok false d (bosF ks ρ)
    | some (.ow d) => .ok true d (bosF ks ρ)
    | _ => .no
  | .ex e ρ => .ex e (bosF ks ρ)
  | _ => .no
/-- the borrowed slots at the entry, from place n on -/
def boB : Nat → List Sl → List V → List (Nat × Addr)
  | n, .bo _ :: r, .ref a :: t => (n, a) :: boB (n + 1) r t
  | n, _ :: r, _ :: t => boB (n + 1) r t
  | _, _, _ => []
theorem boB_snd : ∀ {ks : List Sl} {vs : List V} {n : Nat}, (boB n ks vs).map (·.2) = boA ks vs
  | [], _, _ => by unfold boB boA; rfl
  | s :: ks, [], _ => by cases s <;> (unfold boB boA; rfl)
  | s :: ks, v :: vs, n => by
    cases s with
    | bo d =>
      cases v with
      | ref a =>
        show (n, a).2 :: (boB (n + 1) ks vs).map (·.2) = a :: boA ks vs
        rw [boB_snd]
      | _ => exact boB_snd (n := n + 1)
    | _ => exact boB_snd (n := n + 1)
theorem mem_boB : ∀ {ks : List Sl} {vs : List V} {n : Nat} {p : Nat × Addr}, p ∈ boB n ks vs → ∃ k d, p.1 = n + k ∧ ks[k]? = some (.bo d) ∧ vs[k]? = some (.ref p.2)
  | [], _, _, _, h => by unfold boB at h; cases h
  | s :: ks, [], _, _, h => by cases s <;> (unfold boB at h; cases h)
  | s :: ks, v :: vs, n, p, h => by
    have rest : p ∈ boB (n + 1) ks vs → ∃ k d, p.1 = n + k ∧ (s :: ks)[k]? = some (.bo d) ∧ (v :: vs)[k]? = some (.ref p.2) := fun h => by
      obtain ⟨k, d, e1, e2, e3⟩ := mem_boB h
      exact ⟨k + 1, d, by omega, e2, e3⟩
    cases s with
    | bo d =>
      cases v with
      | ref a =>
        have h : p ∈ (n, a) :: boB (n + 1) ks vs := h
        rcases List.mem_cons.mp h with rfl | h
        · exact ⟨0, d, rfl, rfl, rfl⟩
        · exact rest h
      | _ => exact rest h
    | _ => exact rest h
theorem boB_mem : ∀ {ks : List Sl} {vs : List V} {n k : Nat} {d : D} {a : Addr}, ks[k]? = some (.bo d) → vs[k]? = some (.ref a) → (n + k, a) ∈ boB n ks vs
  | [], _, _, _, _, _, h, _ => by cases h
  | s :: ks, [], _, _, _, _, _, h => by cases h
  | s :: ks, v :: vs, n, 0, d, a, h1, h2 => by
    cases h1; cases h2
    show (n + 0, a) ∈ (n, a) :: boB (n + 1) ks vs
    exact List.mem_cons_self
  | s :: ks, v :: vs, n, k + 1, d, a, h1, h2 => by
    have q : (n + 1 + k, a) ∈ boB (n + 1) ks vs := boB_mem (n := n + 1) h1 h2
    rw [show n + (k + 1) = n + 1 + k by omega]
    cases s with
    | bo e =>
      cases v with
      | ref c => exact List.mem_cons_of_mem _ q
      | _ => exact q
    | _ => exact q
theorem boA_mem {ks : List Sl} {vs : List V} {k : Nat} {d : D} {a : Addr} (h1 : ks[k]? = some (.bo d)) (h2 : vs[k]? = some (.ref a)) : a ∈ boA ks vs := by
  rw [← boB_snd (n := 0)]
  exact List.mem_map.mpr ⟨_, boB_mem h1 h2, rfl⟩
theorem boB_inj {ks : List Sl} {vs : List V} (nd : (boA ks vs).Nodup) : ∀ {n : Nat} {i j : Nat} {a : Addr}, (i, a) ∈ boB n ks vs → (j, a) ∈ boB n ks vs → i = j := by
  intro n i j a h1 h2
  have nd' : ((boB n ks vs).map (·.2)).Nodup := by rw [boB_snd]; exact nd
  generalize boB n ks vs = l at *
  induction l with
  | nil => cases h1
  | cons p l ih =>
    rw [List.map_cons, List.nodup_cons] at nd'
    rcases List.mem_cons.mp h1 with e1 | h1
    · rcases List.mem_cons.mp h2 with e2 | h2
      · rw [e1.symm] at e2; cases e2; rfl
      · exact absurd (List.mem_map.mpr ⟨_, h2, by rw [← e1]⟩) nd'.1
    · rcases List.mem_cons.mp h2 with e2 | h2
      · exact absurd (List.mem_map.mpr ⟨_, h1, by rw [← e2]⟩) nd'.1
      · exact ih h1 h2 nd'.2
theorem Args.get {K : PySem.W.Frag} {mg : Str → Option Value} {F H : Hp} {ks : List Sl} {vs : List V} (A : Args K mg F H ks vs) : ∀ {i : Nat} {s : Sl}, ks[i]? = some s → ∃ v, vs[i]? = some v ∧ ArgOk K mg F H s v := by
  induction A with
  | nil => intro i s e; cases e
  | cons h _ ih =>
    intro i s e
    cases i with
    | zero => cases e; exact ⟨_, rfl, h⟩
    | succ i => exact ih e
theorem Args.len {K : PySem.W.Frag} {mg : Str → Option Value} {F H : Hp} {ks : List Sl} {vs : List V} (A : Args K mg F H ks vs) : ks.length = vs.length := by
  induction A with
  | nil => rfl
  | cons _ _ ih => rw [List.length_cons, List.length_cons, ih]
/-- the ground of a call -/
def bsOf (K : PySem.W.Frag) (mg : Str → Option Value) (F H : Hp) (ks : List Sl) (vs : List V) : Bs := ⟨K, mg, H, F, boB 0 ks vs, [], [], none⟩
theorem start_get {N : List Str} {vs : List V} {i : Nat} {v : V} (h : vs[i]? = some v) : (L2.start N vs)[i]? = some (some v) := by
  unfold L2.start
  have hi := (List.getElem?_eq_some_iff.mp h).1
  rw [List.getElem?_append_left (by simpa using hi), List.getElem?_map, h]
  rfl
theorem ok_start {K : PySem.W.Frag} {mg : Str → Option Value} {F H : Hp} {ks : List Sl} {vs : List V} {N : List Str} (s : Sub F H) (A : Args K mg F H ks vs) (nd : (boA ks vs).Nodup) :
    Ok (bsOf K mg F H ks vs) (ks ++ List.replicate (N.length - ks.length) .un) F H (L2.start N vs) := by
  have un_of : ∀ {i : Nat} {t : Sl}, (ks ++ List.replicate (N.length - ks.length) Sl.un)[i]? = some t → ks[i]? = some t ∨ t = .un := fun {i t} e => by
    by_cases hi : i < ks.length
    · rw [List.getElem?_append_left hi] at e; exact .inl e
    · rw [List.getElem?_append_right (by omega), List.getElem?_replicate] at e
      split at e
      · cases e; exact .inr rfl
      · cases e
  have held_of : ∀ {i : Nat} {t : Sl}, (ks ++ List.replicate (N.length - ks.length) Sl.un)[i]? = some t → t.held = true → ∃ d a, ks[i]? = some (.bo d) ∧ vs[i]? = some (.ref a) ∧ t = .bo d := fun {i t} e hh => by
    rcases un_of e with e | rfl
    · obtain ⟨v, ev, q⟩ := A.get e
      cases t with
      | xn d => cases hh
      | un => cases hh
      | fz d => cases hh
      | ow d => exact q.elim
      | bo d =>
        obtain ⟨a, rfl, _⟩ := q
        exact ⟨d, a, e, ev, rfl⟩
    · cases hh
  refine ⟨s, fun a o e _ => .inl e, Same.refl _, fun a o e => .inl e, ?_, fun i t e => ?_, fun i j t t' a e1 e2 h1 h2 q1 q2 => ?_, fun p hp => ?_, fun p hp => by cases hp⟩
  · unfold L2.start
    simp only [List.length_append, List.length_replicate, List.length_map, A.len]
  · rcases un_of e with e | rfl
    · obtain ⟨v, ev, q⟩ := A.get e
      rw [start_get ev]
      cases t with
      | xn d => exact q.elim
      | un => trivial
      | fz d => exact ⟨v, rfl, q⟩
      | ow d => exact q.elim
      | bo d =>
        obtain ⟨a, rfl, n, oa⟩ := q
        refine ⟨a, rfl, n, ?_, oa⟩
        show a ∈ (boB 0 ks vs).map (·.2)
        rw [boB_snd]
        exact boA_mem e ev
    · trivial
  · obtain ⟨d1, a1, f1, g1, _⟩ := held_of e1 h1
    obtain ⟨d2, a2, f2, g2, _⟩ := held_of e2 h2
    rw [start_get g1] at q1
    rw [start_get g2] at q2
    cases q1; cases q2
    have m1 := boB_mem (n := 0) f1 g1
    have m2 := boB_mem (n := 0) f2 g2
    have := boB_inj nd m1 m2
    omega
  · obtain ⟨k, d, e1, e2, e3⟩ := mem_boB hp
    have e1 : p.1 = k := by omega
    rw [e1]
    refine ⟨start_get e3, d, ?_⟩
    rw [List.getElem?_append_left (List.getElem?_eq_some_iff.mp e2).1]
    exact e2
theorem bosF_nil : ∀ {ks : List Sl}, bosF ks [] = []
  | [] => rfl
  | s :: ks => by cases s <;> rfl
theorem boA_none : ∀ {ks : List Sl} {vs : List V}, (∀ (i : Nat) (d : D), ks[i]? ≠ some (Sl.bo d)) → boA ks vs = []
  | [], _, _ => by unfold boA; rfl
  | s :: ks, [], _ => by cases s <;> (unfold boA; rfl)
  | s :: ks, v :: vs, h => by
    have q : boA ks vs = [] := boA_none fun i d e => h (i + 1) d e
    cases s with
    | xn d => exact q
    | bo d => exact absurd rfl (h 0 d)
    | un => exact q
    | fz d => exact q
    | ow d => exact q
theorem boOut_of {b : Bs} {ρ : Env} {F H : Hp} {σ : St} (k : Ok b ρ F H σ) : ∀ {ks : List Sl} {vs : List V} {n : Nat}, (∀ p ∈ boB n ks vs, p ∈ b.B) → ks.length = vs.length → (∀ (i : Nat) (d : D), ks[i]? = some (Sl.bo d) → ∃ a, vs[i]? = some (V.ref a)) → BoOut b.K b.mg F H (boA ks vs) (bosF ks (ρ.drop n))
  | [], _, _, _, _, _ => by
    unfold boA bosF; exact .nil
  | s :: ks, [], _, _, hl, _ => by cases hl
  | s :: ks, v :: vs, n, hb, hl, hr => by
    by_cases hlt : n < ρ.length
    · have ed : ρ.drop n = ρ[n] :: ρ.drop (n + 1) := List.drop_eq_getElem_cons hlt
      have rest : (∀ p ∈ boB (n + 1) ks vs, p ∈ b.B) → BoOut b.K b.mg F H (boA ks vs) (bosF ks (ρ.drop (n + 1))) := fun h => boOut_of k h (by simpa using hl) (fun i d e => hr (i + 1) d e)
      have other : (∀ d, s ≠ .bo d) → BoOut b.K b.mg F H (boA (s :: ks) (v :: vs)) (bosF (s :: ks) (ρ.drop n)) := fun hs => by
        rw [ed]
        cases s with
        | xn d => exact rest fun p hp => hb p hp
        | bo d => exact absurd rfl (hs d)
        | un => exact rest fun p hp => hb p hp
        | fz d => exact rest fun p hp => hb p hp
        | ow d => exact rest fun p hp => hb p hp
      cases s with
      | xn d => exact other fun d e => by cases e
      | bo d =>
        obtain ⟨a, ea⟩ := hr 0 d rfl
        cases ea
        obtain ⟨e1, d', e2⟩ := k.bor (n, a) (hb (n, a) List.mem_cons_self)
        have z := k.slot n _ e2
        rw [e1] at z
        obtain ⟨c, ec, nn, _, oa⟩ := z
        cases ec
        rw [ed]
        show BoOut b.K b.mg F H (a :: boA ks vs) (((ρ[n]).data?).getD .non :: bosF ks (ρ.drop (n + 1)))
        have e3 : ρ[n] = .bo d' := by
          rw [List.getElem?_eq_getElem hlt] at e2
          exact Option.some.inj e2
        rw [e3]
        exact .cons nn oa (rest fun p hp => hb p (List.mem_cons_of_mem _ hp))
      | un => exact other fun d e => by cases e
      | fz d => exact other fun d e => by cases e
      | ow d => exact other fun d e => by cases e
    · have ed : ρ.drop n = [] := List.drop_eq_nil_of_le (by omega)
      rw [ed, bosF_nil, boA_none fun i d e => ?_]
      · exact .nil
      · obtain ⟨a, ea⟩ := hr i d e
        obtain ⟨e1, d', e2⟩ := k.bor (n + i, a) (hb _ (boB_mem e ea))
        have := (List.getElem?_eq_some_iff.mp e2).1
        omega
theorem fpost_of {K : PySem.W.Frag} {mg : Str → Option Value} {F H F' H' : Hp} {ks : List Sl} {vs : List V} {ρ' : Env} {σ' : St} (A : Args K mg F H ks vs) (k : Ok (bsOf K mg F H ks vs) ρ' F' H' σ') : FPost K mg F H (boA ks vs) (bosF ks ρ') F' H' := by
  refine ⟨k.sub, k.ext, k.new, fun a o e hn => ?_, ?_⟩
  · rcases k.old a o e (by show a ∉ (boB 0 ks vs).map (·.2); rw [boB_snd]; exact hn) with z | ⟨z, _⟩
    · exact z
    · cases z
  · have q := boOut_of (n := 0) k (ks := ks) (vs := vs) (fun p hp => hp) A.len (fun i d e => by
      obtain ⟨v, ev, q⟩ := A.get e
      obtain ⟨a, rfl, _⟩ := q
      exact ⟨a, ev⟩)
    rwa [List.drop_zero] at q
section
variable {P : Program} {w : World} {K : PySem.W.Frag} {mg : Str → Option Value} {base : Heap}
/-- a def's promise from its body, no guard of repr up -/
theorem fnG_of {k : Nat} {f : Addr} {name qual : Str} {params : Arguments} {body : List Stmt} {scope : Scope} {dV kV doc pm cdv ct oc : Value} {an od : Option Addr}
    {osl : Array (Option Value)} {N ps : List Str} {sp : Sp} (lk : K.lookup f = some ⟨oc, od, .func (PySem.W.fnOf name qual params body scope dV kV doc pm an cdv ct), osl⟩) (hcd : PySem.W.codeIn K cdv qual = true) (S : FnScope N ps scope)
    (len : ∀ vs H Q E, sp vs H Q E → vs.length = ps.length)
    (hbody : ∀ (A : Around) (outer : List PySem.Env) (s : Shared) (H : Hp) (vs : List V) (Q : VK) (E : XK), Room k (A.deeper (PyProof.Rows.envOfC qual scope s.heap.objs.size f cdv)) → A.guards = some [] → sp vs H Q E →
      ∃ t, PSs (cxOf (L2.CX P w) P w K mg base N qual scope f cdv A outer s H E) body t ∧ t { nx := fun _ H' => Q .non H', rt := Q } (start N vs) H) :
    FnG P w K mg base (k + 1) f (PySem.W.fnOf name qual params body scope dV kV doc pm an cdv ct) ps sp := by
  refine ⟨len, fun A outer s H args us vs Q E hr hgd e0 hb r hsp => ?_⟩
  have hl := len _ _ _ _ hsp
  have KX : K.In s.heap := e0.mod.kin.keeps fun b o e => (e0.bs b o e).1
  have lim : s.heap.NoLimit := e0.mod.nolimit.keeps fun b o e => (e0.bs b o e).1
  have hkind : ∀ y ∈ ps.zip us, scope.names.lookup y.1 = some .local ∨ (scope.names.lookup y.1 = some .cell ∧ ((cellsFrom (s.heap.objs.size + 1) scope.names []).lookup y.1).isSome = true) := fun ⟨n, v⟩ hy => by
    rcases S.par n (List.of_mem_zip hy).1 with q | q
    · exact .inl q
    · exact .inr ⟨q, PySem.W.cellsFrom_some _ _ _ (.inl q)⟩
  refine codeAny_call_function hr.depth (KX _ _ lk) rfl S.co S.gen rfl (PySem.W.codeRec_of KX hcd) (hb _ _ _ _ ?_)
  refine wpAny_newFunctionEnv_cells S.kind hkind fun env he s1 x => ?_
  subst he
  refine ⟨lim.keeps x.toInCall.keep, codeAny_func ?_⟩
  obtain ⟨t, ht, hq⟩ := hbody A outer s H vs Q E (hr.deeper _) hgd hsp
  have I : L2.Inv (cxOf (L2.CX P w) P w K mg base N qual scope f cdv A outer s H E) [] (start N vs) H s1 := inv_start S hr.hd e0 hl r x
  refine wpAny_mono (ht.run [] s1 (start N vs) H _ I hq) (fun fl s' hs => ?_) fun e s' hs => hs
  cases fl with
  | ret u =>
    obtain ⟨v, σ', H', J, rv, q⟩ := hs
    exact ⟨v, H', J.os, J.bare, J.base, J.hok, rv, q⟩
  | next =>
    obtain ⟨σ', H', J, q⟩ := hs
    exact ⟨V.non, H', J.os, J.bare, J.base, J.hok, rfl, q⟩
  | brk =>
    obtain ⟨_, _, _, q⟩ := hs
    exact False.elim q
  | cont =>
    obtain ⟨_, _, _, q⟩ := hs
    exact False.elim q
/-- what a def's body may lean on -/
structure Bd (X : Cx) (W : WX) (k : Nat) : Prop where
  tk : Takes X W
  hp : PassesOwn (model X.prog X.w) X.A X.env X.xe
  room : Room k X.A
  gd : X.A.guards = some []
theorem body_run {N : List Str} {F0 H : Hp} {ks : List Sl} {vs : List V} {φ : M Ctl} {Q : VK} {E : XK} (sb : Sub F0 H) (AA : Args K mg F0 H ks vs) (nd : (boA ks vs).Nodup) (h : match runB N.length φ ks with
  | .ok own d bs => ∀ v F' H', FPost K mg F0 H (boA ks vs) bs F' H' → RetOk K mg H F' H' own d v → Q v H'
  | .ex e bs => ∀ c dd F' H', FPost K mg F0 H (boA ks vs) bs F' H' → ExR' K mg F' e c dd → E c dd H'
  | .no => False) : tS (bsOf K mg F0 H ks vs) (fun c d _ H => E c d H) φ { nx := fun _ H' => Q .non H', rt := Q } (start N vs) H := by
  have k0 := ok_start (N := N) sb AA nd
  refine ⟨F0, _, k0, ?_⟩
  unfold runB at h
  cases e : φ (ks ++ List.replicate (N.length - ks.length) .un) with
  | no => rw [e] at h; exact h.elim
  | ex x ρ' =>
    rw [e] at h
    exact fun c dd σ' F' H' k s q => h c dd F' H' (fpost_of AA k) q
  | ok c ρ' =>
    rw [e] at h
    cases c with
    | nx => exact fun σ' F' H' k s => h .non F' H' (fpost_of AA k) (by show Rep _ _ _ _ _; unfold Rep; rfl)
    | bk => exact h.elim
    | ct => exact h.elim
    | rt av =>
      intro v σ' F' H' k s r
      cases av with
      | fz d => exact h v F' H' (fpost_of AA k) r
      | ow d =>
        obtain ⟨a, ea, n, n0, oa, _⟩ := r
        exact h v F' H' (fpost_of AA k) ⟨a, ea, n, n0, oa⟩
      | sl i =>
        have r : σ'[i]? = some (some v) := r
        cases ei : ρ'[i]? with
        | none => simp only [ei] at h
        | some t =>
          have z := k.slot i t ei
          rw [r] at z
          simp only [ei] at h
          cases t with
          | xn d => exact h.elim
          | un => exact h.elim
          | bo d => exact h.elim
          | fz d =>
            obtain ⟨u, eu, ru⟩ := z
            cases eu
            exact h v F' H' (fpost_of AA k) ru
          | ow d =>
            obtain ⟨a, ea, n, n0, oa⟩ := z
            cases ea
            exact h _ F' H' (fpost_of AA k) ⟨a, rfl, n, n0, oa⟩
theorem fn_D {x qual : Str} {st : Stmt} {f : Addr} {fd : FuncData} {N ps : List Str} {k : Nat} {φ : M Ctl} (F : Fun K x qual st f fd) (S : FnScope N ps (defScope st))
    (hbody : ∀ (cdv : Value) (A : Around) (outer : List PySem.Env) (s : Shared) (H : Hp) (E : XK) (b : Bs), Fit (cxOf (L2.CX P w) P w K mg base N qual (defScope st) f cdv A outer s H E) b →
      Bd (cxOf (L2.CX P w) P w K mg base N qual (defScope st) f cdv A outer s H E) (fun c d _ H => E c d H) k →
      PSs (cxOf (L2.CX P w) P w K mg base N qual (defScope st) f cdv A outer s H E) (defBody st) (tS b (fun c d _ H => E c d H) φ)) : FnG P w K mg base (k + 1) f fd ps (spD K mg ps.length (runB N.length φ)) := by
  obtain ⟨oc, od, kV, doc, pm, an, cdv, ct, osl, rfl, lk, hcd⟩ := F.ex
  refine fnG_of lk hcd S (fun vs H Q E h => h.1) fun A outer s H vs Q E hr hgd h => ?_
  obtain ⟨hl, F0, ks, sb, AA, nd, h⟩ := h
  refine ⟨_, hbody cdv A outer s H E (bsOf K mg F0 H ks vs) ⟨rfl, rfl⟩ ⟨takes_of rfl rfl rfl rfl, passes_of rfl, hr, hgd⟩, body_run sb AA nd h⟩
end
end DL

namespace DL
open PySem PySem.Spec L2

/-! ### list comprehensions -/
def wipeE : List Nat → Env → Option Env
  | [], ρ => some ρ
  | i :: is, ρ => match wipeE is ρ with
    | some ρ' => match ρ'[i]? with
      | some (.bo _) => none
      | some _ => some (ρ'.set i .un)
      | none => none
    | none => none
/-- behind the block: what was frozen in its own names' slots is there again -/
def restE : List Nat → Env → Env → Env
  | [], _, ρ => ρ
  | i :: is, ρ0, ρ => (restE is ρ0 ρ).set i (match ρ0[i]? with
    | some (.fz d) => .fz d
    | _ => .un)
def wipeM (own : List Nat) : M Unit := fun ρ => match wipeE own ρ with
  | some ρ' => .ok () ρ'
  | none => .no
def loopC (own : List Nat) (t : Tg) (τ : M Bool) (φ : M AV) : List D → List D → M (List D)
  | [], acc => M.ret acc
  | d :: ds, acc => (bindT t d).bnd fun _ => τ.bnd fun k => if k then φ.bnd fun av => (frz av).bnd fun x => if acc.length < sizeLine then (wipeM own).bnd fun _ => loopC own t τ φ ds (acc ++ [x]) else M.stuck
    else (wipeM own).bnd fun _ => loopC own t τ φ ds acc
theorem bnd_inv {α β : Type} {m : M α} {f : α → M β} {ρ ρ' : Env} {x : β} (h : m.bnd f ρ = .ok x ρ') : ∃ a ρ1, m ρ = .ok a ρ1 ∧ f a ρ1 = .ok x ρ' := by
  unfold M.bnd at h
  cases e : m ρ with
  | no => rw [e] at h; cases h
  | ex y ρ1 => rw [e] at h; cases h
  | ok a ρ1 => rw [e] at h; exact ⟨a, ρ1, rfl, h⟩
theorem wipeM_inv {own : List Nat} {ρ ρ' : Env} {u : Unit} (h : wipeM own ρ = .ok u ρ') : wipeE own ρ = some ρ' := by
  unfold wipeM at h
  cases e : wipeE own ρ with
  | none => rw [e] at h; cases h
  | some ρ1 => rw [e] at h; cases h; rfl
def mComp (ιs : M (List D)) (own : List Nat) (t : Tg) (τ : M Bool) (φ : M AV) : M AV := ιs.bnd fun ds => fun ρ0 => match wipeE own ρ0 with
  | some ρ1 => match loopC own t τ φ ds [] ρ1 with
    | .ok acc ρ2 => .ok (.ow (.lst acc)) (restE own ρ0 ρ2)
    | _ => .no
  | none => .no
def W0 : WX := fun _ _ _ _ => False
theorem wipeE_len : ∀ {is : List Nat} {ρ ρ' : Env}, wipeE is ρ = some ρ' → ρ'.length = ρ.length
  | [], _, _, h => by cases h; rfl
  | i :: is, ρ, ρ', h => by
    unfold wipeE at h
    cases e : wipeE is ρ with
    | none => rw [e] at h; cases h
    | some ρ1 =>
      rw [e] at h
      dsimp only at h
      split at h
      · cases h
      · cases h; rw [List.length_set]; exact wipeE_len e
      · cases h
theorem wipeE_get : ∀ {is : List Nat} {ρ ρ' : Env} {j : Nat} {s : Sl}, wipeE is ρ = some ρ' → ρ'[j]? = some s → (j ∈ is ∧ s = .un ∧ ∃ t, ρ[j]? = some t ∧ isBo t = false) ∨ (j ∉ is ∧ ρ[j]? = some s)
  | [], _, _, _, _, h, e => by cases h; exact .inr ⟨by simp, e⟩
  | i :: is, ρ, ρ', j, s, h, e => by
    unfold wipeE at h
    cases e1 : wipeE is ρ with
    | none => rw [e1] at h; cases h
    | some ρ1 =>
      rw [e1] at h
      dsimp only at h
      split at h
      · cases h
      · rename_i t hbo ht
        cases h
        rcases set_get e with ⟨rfl, _, rfl⟩ | ⟨hj, e'⟩
        · rcases wipeE_get e1 ht with ⟨m, rfl, z⟩ | ⟨_, z⟩
          · exact .inl ⟨List.mem_cons_self, rfl, z⟩
          · refine .inl ⟨List.mem_cons_self, rfl, t, z, ?_⟩
            cases t with
            | bo d => exact (hbo d rfl).elim
            | _ => rfl
        · rcases wipeE_get e1 e' with ⟨m, rfl, z⟩ | ⟨m, z⟩
          · exact .inl ⟨List.mem_cons_of_mem _ m, rfl, z⟩
          · exact .inr ⟨by simp only [List.mem_cons, not_or]; exact ⟨hj, m⟩, z⟩
      · cases h
theorem wipeE_out {is : List Nat} {ρ ρ' : Env} {j : Nat} (h : wipeE is ρ = some ρ') (hj : j ∉ is) : ρ'[j]? = ρ[j]? := by
  cases e : ρ'[j]? with
  | none =>
    have l := wipeE_len h
    have := List.getElem?_eq_none_iff.mp e
    exact (List.getElem?_eq_none_iff.mpr (by omega)).symm
  | some s =>
    rcases wipeE_get h e with ⟨m, _⟩ | ⟨_, z⟩
    · exact absurd m hj
    · exact z.symm
theorem restE_len : ∀ {is : List Nat} {ρ0 ρ : Env}, (restE is ρ0 ρ).length = ρ.length
  | [], _, _ => rfl
  | i :: is, ρ0, ρ => by unfold restE; rw [List.length_set, restE_len]
theorem restE_get : ∀ {is : List Nat} {ρ0 ρ : Env} {j : Nat} {s : Sl}, (restE is ρ0 ρ)[j]? = some s → (j ∈ is ∧ (s = .un ∨ ∃ d, s = .fz d ∧ ρ0[j]? = some (.fz d))) ∨ (j ∉ is ∧ ρ[j]? = some s)
  | [], _, _, _, _, h => .inr ⟨by simp, h⟩
  | i :: is, ρ0, ρ, j, s, h => by
    unfold restE at h
    rcases set_get h with ⟨rfl, _, rfl⟩ | ⟨hj, h'⟩
    · refine .inl ⟨List.mem_cons_self, ?_⟩
      split
      · rename_i d e
        exact .inr ⟨d, rfl, e⟩
      · exact .inl rfl
    · rcases restE_get h' with ⟨m, z⟩ | ⟨m, z⟩
      · exact .inl ⟨List.mem_cons_of_mem _ m, z⟩
      · exact .inr ⟨by simp only [List.mem_cons, not_or]; exact ⟨hj, m⟩, z⟩
theorem restE_out {is : List Nat} {ρ0 ρ : Env} {j : Nat} (hj : j ∉ is) : (restE is ρ0 ρ)[j]? = ρ[j]? := by
  cases e : (restE is ρ0 ρ)[j]? with
  | none =>
    have l := restE_len (is := is) (ρ0 := ρ0) (ρ := ρ)
    have := List.getElem?_eq_none_iff.mp e
    exact (List.getElem?_eq_none_iff.mpr (by omega)).symm
  | some s =>
    rcases restE_get e with ⟨m, _⟩ | ⟨_, z⟩
    · exact absurd m hj
    · exact z.symm
section
variable {b : Bs} {ρ ρ' : Env} {F H : Hp} {σ σ' : St}
/-- the same objects, other slots -/
theorem Ok.re (k : Ok b ρ F H σ) (hl : ρ'.length = σ'.length) (h : ∀ (i : Nat) (s : Sl), ρ'[i]? = some s → (ρ[i]? = some s ∧ σ'[i]? = σ[i]?) ∨ s = .un ∨ ∃ d v, s = .fz d ∧ σ'[i]? = some (some v) ∧ Rep b.K b.mg F d v)
    (hb : ∀ p ∈ b.B, ρ'[p.1]? = ρ[p.1]? ∧ σ'[p.1]? = σ[p.1]?) : Ok b ρ' F H σ' := by
  have held : ∀ (i : Nat) (s : Sl), ρ'[i]? = some s → s.held = true → ρ[i]? = some s ∧ σ'[i]? = σ[i]? := fun i s e hh => by
    rcases h i s e with z | rfl | ⟨d, v, rfl, _⟩
    · exact z
    · cases hh
    · cases hh
  refine ⟨k.sub, k.old, k.ext, k.new, hl, fun i s e => ?_, fun i j s s' a e1 e2 h1 h2 q1 q2 => ?_, fun p hp => ?_, fun p hp => ?_⟩
  · rcases h i s e with ⟨z1, z2⟩ | rfl | ⟨d, v, rfl, z, r⟩
    · rw [z2]; exact k.slot i s z1
    · trivial
    · rw [z]; exact ⟨v, rfl, r⟩
  · obtain ⟨f1, g1⟩ := held i s e1 h1
    obtain ⟨f2, g2⟩ := held j s' e2 h2
    exact k.sep i j s s' a f1 f2 h1 h2 (by rw [← g1]; exact q1) (by rw [← g2]; exact q2)
  · obtain ⟨z1, z2⟩ := hb p hp
    rw [z1, z2]; exact k.bor p hp
  · obtain ⟨h1, h2, h3⟩ := k.prot p hp
    refine ⟨h1, h2, fun j s ej hs w => ?_⟩
    obtain ⟨f1, g1⟩ := held j s ej hs
    exact h3 j s f1 hs (by rw [← g1]; exact w)
theorem wipe_get {own : List Nat} {i : Nat} (h : i ∉ own) : (wipe σ own)[i]? = σ[i]? := wipe_out h
theorem Ok.wiped (k : Ok b ρ F H σ) {own : List Nat} (h : wipeE own ρ = some ρ') : Ok b ρ' F H (wipe σ own) := by
  refine k.re (by rw [wipeE_len h, wipe_length]; exact k.len) (fun i s e => ?_) fun p hp => ?_
  · rcases wipeE_get h e with ⟨m, rfl, _⟩ | ⟨m, z⟩
    · exact .inr (.inl rfl)
    · exact .inl ⟨z, wipe_get m⟩
  · obtain ⟨_, d, e2⟩ := k.bor p hp
    have hn : p.1 ∉ own := fun hm => by
      have hlt : p.1 < ρ'.length := by rw [wipeE_len h]; exact (List.getElem?_eq_some_iff.mp e2).1
      rcases wipeE_get h (List.getElem?_eq_getElem hlt) with ⟨_, _, t, et, ht⟩ | ⟨m, _⟩
      · rw [e2] at et; cases et; cases ht
      · exact m hm
    exact ⟨wipeE_out h hn, wipe_get hn⟩
/-- a new object that is kept apart -/
theorem Ok.keepNew (k : Ok b ρ F H σ) {p : Addr} {o : HO} (h : H p = none) : Ok { b with P := (p, o) :: b.P } ρ F (upd H p o) σ := by
  have g : Grow F H F (upd H p o) := Grow.owned k.sub h
  have k' := k.grow g
  exact ⟨k'.sub, k'.old, k'.ext, k'.new, k'.len, k'.slot, k'.sep, k'.bor, fun q hq => by
    rcases List.mem_cons.mp hq with rfl | hq
    · exact ⟨upd_same, k.fresh_F h, k.apart_new h⟩
    · exact k'.prot q hq⟩
theorem Ok.unkept {x : Addr × HO} (k : Ok { b with P := x :: b.P } ρ F H σ) : Ok b ρ F H σ := ⟨k.sub, k.old, k.ext, k.new, k.len, k.slot, k.sep, k.bor, fun q hq => k.prot q (List.mem_cons_of_mem _ hq)⟩
/-- .. is written -/
theorem Ok.keptSet {p : Addr} {o o' : HO} (k : Ok { b with P := (p, o) :: b.P } ρ F H σ) (h0 : b.H_0 p = none) (hP : ∀ q ∈ b.P, q.1 ≠ p) : Ok { b with P := (p, o') :: b.P } ρ F (upd H p o') σ := by
  obtain ⟨p1, p2, p3⟩ := k.prot (p, o) List.mem_cons_self
  have p1 : H p = some o := p1
  have p2 : F p = none := p2
  refine ⟨fun a u e => ?_, fun a u e hb => ?_, k.ext, k.new, k.len, fun i s e => ?_, k.sep, k.bor, fun q hq => ?_⟩
  · rw [upd_ne (ne_of_none e p2)]; exact k.sub a u e
  · have hne : a ≠ p := fun z => by
      subst z
      have e : b.H_0 a = some u := e
      rw [h0] at e; cases e
    rw [upd_ne hne]; exact k.old a u e hb
  · have z := k.slot i s e
    cases s with
    | xn d => exact z
    | un => trivial
    | fz d => exact z
    | ow d =>
      obtain ⟨a, ea, n, n0, oa⟩ := z
      have hne : a ≠ p := fun q => p3 i _ e rfl (by rw [← q]; exact getD_ref ea)
      exact ⟨a, ea, n, n0, oa.mono (Same.refl _) fun o q => by rw [upd_ne hne]; exact q⟩
    | bo d =>
      obtain ⟨a, ea, n, n0, oa⟩ := z
      have hne : a ≠ p := fun q => p3 i _ e rfl (by rw [← q]; exact getD_ref ea)
      exact ⟨a, ea, n, n0, oa.mono (Same.refl _) fun o q => by rw [upd_ne hne]; exact q⟩
  · rcases List.mem_cons.mp hq with rfl | hq
    · exact ⟨upd_same, p2, p3⟩
    · obtain ⟨q1, q2, q3⟩ := k.prot q (List.mem_cons_of_mem _ hq)
      exact ⟨by rw [upd_ne (hP q hq)]; exact q1, q2, q3⟩
end
def mTests : List (M Bool) → M Bool
  | [] => M.ret true
  | τ :: r => mAnd τ (mTests r)
section
variable {X : Cx} {b : Bs} {W : WX} {pos : Pos}
/-- readings over any ground -/
def uE (K : PySem.W.Frag) (mg : Str → Option Value) (φ : M AV) : TE := fun σ H Q => ∃ b : Bs, b.K = K ∧ b.mg = mg ∧ tE b W0 φ σ H Q
def uT (K : PySem.W.Frag) (mg : Str → Option Value) (φ : M Bool) : TT := fun σ H Q => ∃ b : Bs, b.K = K ∧ b.mg = mg ∧ tT b W0 φ σ H Q
def uG (K : PySem.W.Frag) (mg : Str → Option Value) (t : Tg) : TG := fun v σ H Q => ∃ b : Bs, b.K = K ∧ b.mg = mg ∧ tGd b t v σ H Q
theorem pe_u {e : Expr} {φ : M AV} (h : ∀ b, Fit X b → PE X e (tE b W0 φ)) : PE X e (uE X.K X.mg φ) := ⟨fun pins s σ H Q I ⟨b, h1, h2, q⟩ => (h b ⟨h1, h2⟩).run pins s σ H Q I q⟩
theorem pt_u {e : Expr} {φ : M Bool} (h : ∀ b, Fit X b → PT X e (tT b W0 φ)) : PT X e (uT X.K X.mg φ) := ⟨fun pins s σ H Q I ⟨b, h1, h2, q⟩ => (h b ⟨h1, h2⟩).run pins s σ H Q I q⟩
theorem pg_u {e : Expr} {t : Tg} (h : ∀ b, Fit X b → PG X e (tGd b t)) : PG X e (uG X.K X.mg t) := ⟨fun pins s σ H v u Q I r ⟨b, h1, h2, q⟩ => (h b ⟨h1, h2⟩).run pins s σ H v u Q I r q⟩
/-- a comprehension's tests -/
structure PTd (X : Cx) (ifs : List Expr) (τ : M Bool) : Prop where
  run : PTs X ifs (uT X.K X.mg τ)
theorem dts_nil : PTd X [] (M.ret true) := ⟨⟨fun pins s σ H Q I ⟨b, h1, h2, F, ρ, k, h⟩ => pts_nil.run pins s σ H Q I (h F H k (Same.refl _))⟩⟩
theorem dts_one {c : Expr} {τ : M Bool} (h : ∀ b, Fit X b → PT X c (tT b W0 τ)) : PTd X [c] τ := ⟨pts_one (pt_u h)⟩
theorem wipe_in : ∀ {own : List Nat} {σ : St} {i : Nat}, i ∈ own → (wipe σ own)[i]? = if i < σ.length then some none else none
  | [], _, _, h => by cases h
  | v :: vs, σ, i, h => by
    unfold wipe
    by_cases hv : i = v
    · subst hv
      rw [List.getElem?_set]
      simp only [if_true, wipe_length]
    · rw [List.getElem?_set_ne (Ne.symm hv)]
      rcases List.mem_cons.mp h with z | z
      · exact absurd z hv
      · exact wipe_in z
theorem out_wipe {l own : List Nat} {σ σ' : St} (o : Out l σ σ') (h : ∀ i ∈ l, i ∈ own) : wipe σ' own = wipe σ own := by
  apply List.ext_getElem?
  intro i
  by_cases hi : i ∈ own
  · rw [wipe_in hi, wipe_in hi, o.1]
  · rw [wipe_get hi, wipe_get hi, o.2 i fun hm => hi (h i hm)]
theorem wipe_wipe {own : List Nat} {σ : St} : wipe (wipe σ own) own = wipe σ own := out_wipe (l := own) ⟨wipe_length σ own, fun j hj => wipe_get hj⟩ fun _ h => h
/-- what is wanted of a turn's data: the loop comes to this end -/
theorem comp_rd {ιs : M (List D)} {τ : M Bool} {φ : M AV} {t : Tg} (own : List (Str × Nat)) (fit : Fit X b) (hsl : ∀ i ∈ t.slots, i ∈ own.map (·.2)) : ∀ σ H Q, tE b W (mComp ιs (own.map (·.2)) t τ φ) σ H Q → tLc (tI b W ιs) (uG X.K X.mg t) (uT X.K X.mg τ) (uE X.K X.mg φ) (own.map (·.2)) σ H Q := by
  intro σ H Q ⟨F, ρ, k, h⟩
  refine ⟨F, ρ, k, ?_⟩
  generalize hown : own.map (·.2) = ow at *
  refine h.bnd.imp fun ds ρ0 F1 H1 k1 s1 ⟨_, h1⟩ J hJ D hD => ?_
  cases ew : wipeE ow ρ0 with
  | none => simp only [ew] at h1; exact h1.elim
  | some ρ1 =>
    simp only [ew] at h1
    cases el : loopC ow t τ φ ds [] ρ1 with
    | no => simp only [el] at h1; exact h1.elim
    | ex x ρ' => simp only [el] at h1; exact h1.elim
    | ok accE ρE =>
      simp only [el] at h1
      have hD0 : b.H_0 D = none := k1.fresh_0 hD
      have hPD : ∀ q ∈ b.P, q.1 ≠ D := k1.prot_new hD
      refine ⟨fun i m H => m = ds.length - i ∧ i ≤ ds.length ∧ ∃ F2 ρ2 acc xs, Ok { b with P := (D, .lst xs) :: b.P } ρ2 F2 H (wipe σ ow) ∧ Same F1 F2 ∧ RepL b.K b.mg F2 acc xs ∧ loopC ow t τ φ (ds.drop i) acc ρ2 = .ok accE ρE,
        ⟨ds.length, rfl, Nat.zero_le _, F1, ρ1, [], [], (k1.wiped ew).keepNew hD, Same.refl _, by unfold RepL; rfl, el⟩, ?_⟩
      rintro i m H2 ⟨rfl, hi, F2, ρ2, acc, xs, k2, s2, ra, e2⟩
      obtain ⟨go, stop⟩ := hJ F2 H2 s2 k2.sub
      by_cases hlt : i < ds.length
      · obtain ⟨g1, g2⟩ := go i ds[i] (List.getElem?_eq_getElem hlt)
        have e : ds.drop i = ds[i] :: ds.drop (i + 1) := List.drop_eq_getElem_cons hlt
        rw [e] at e2
        unfold loopC at e2
        obtain ⟨u, ρ3, eb, e2⟩ := bnd_inv e2
        obtain ⟨c, ρ4, et, e2⟩ := bnd_inv e2
        refine .inr ⟨g1, fun H' => ∃ F3 ρ3 acc' xs', Ok { b with P := (D, .lst xs') :: b.P } ρ3 F3 H' (wipe σ ow) ∧ Same F1 F3 ∧ RepL b.K b.mg F3 acc' xs' ∧ loopC ow t τ φ (ds.drop (i + 1)) acc' ρ3 = .ok accE ρE,
          fun H' z => ⟨ds.length - (i + 1), by omega, rfl, hlt, z⟩, fun x H' y => ?_⟩
        obtain ⟨F3, gr, rx⟩ := g2 x H' y
        refine ⟨{ b with P := (D, .lst xs) :: b.P }, fit.K, fit.mg, F3, ρ2, ds[i], k2.grow gr, rx, ?_⟩
        rw [eb]
        intro σ2 k3 o3
        have hw : wipe σ2 ow = wipe σ ow := (out_wipe o3 hsl).trans wipe_wipe
        refine ⟨hw, { b with P := (D, .lst xs) :: b.P }, fit.K, fit.mg, F3, ρ3, k3, ?_⟩
        rw [et]
        intro F4 H4 k4 s4
        cases c with
        | false =>
          refine iteF ?_
          rw [if_neg Bool.false_ne_true] at e2
          obtain ⟨_, ρ5, e4, e2⟩ := bnd_inv e2
          have k5 := k4.wiped (wipeM_inv e4)
          rw [hw] at k5
          exact ⟨F4, ρ5, acc, xs, k5, s2.trans (gr.ext.trans s4), ra.mono (gr.ext.trans s4), e2⟩
        | true =>
          rw [if_pos rfl] at e2
          obtain ⟨av, ρ5, ep, e2⟩ := bnd_inv e2
          obtain ⟨d, ρ6, ef, e2⟩ := bnd_inv e2
          refine iteT ⟨{ b with P := (D, .lst xs) :: b.P }, fit.K, fit.mg, F4, ρ4, k4, ?_⟩
          rw [ep]
          intro F5 H5 k5 s5 y ry
          obtain ⟨F6, k6, s6, r6⟩ := k5.froze ry ef
          by_cases hz : acc.length < sizeLine
          · rw [if_pos hz] at e2
            obtain ⟨_, ρ7, e4, e2⟩ := bnd_inv e2
            have pD := (k6.prot (D, .lst xs) List.mem_cons_self).1
            have st := gr.ext.trans (s4.trans (s5.trans s6))
            refine ⟨xs, pD, by rw [← ra.len]; exact hz, F6, ρ7, acc ++ [d], xs ++ [y], ?_, s2.trans st, RepL.snoc r6 (ra.mono st), e2⟩
            have k7 := k6.wiped (wipeM_inv e4)
            rw [hw] at k7
            exact k7.keptSet hD0 hPD
          · rw [if_neg hz] at e2; cases e2
      · have hi' : i = ds.length := by omega
        subst hi'
        rw [List.drop_length] at e2
        unfold loopC M.ret at e2
        injection e2 with e3 e4
        subst e3 e4
        refine .inl ⟨stop, ?_⟩
        obtain ⟨q1, q2, q3⟩ := k2.prot (D, .lst xs) List.mem_cons_self
        have k3 := k2.unkept
        have kk : Ok b (restE ow ρ0 ρ2) F2 H2 σ := by
          refine k3.re (by rw [restE_len, k3.len, wipe_length]) (fun j s ej => ?_) fun p hp => ?_
          · rcases restE_get ej with ⟨m, rfl | ⟨d, rfl, e0⟩⟩ | ⟨m, z⟩
            · exact .inr (.inl rfl)
            · obtain ⟨v, ev, r⟩ := k1.slot j _ e0
              exact .inr (.inr ⟨d, v, rfl, getD_ref ev, r.mono s2⟩)
            · exact .inl ⟨z, (wipe_get m).symm⟩
          · obtain ⟨_, d, e2⟩ := k3.bor p hp
            have hn : p.1 ∉ ow := fun hm => by
              obtain ⟨e1, _⟩ := k3.bor p hp
              rw [wipe_in hm] at e1
              split at e1 <;> cases e1
            exact ⟨restE_out hn, (wipe_get hn).symm⟩
        refine h1 F2 H2 kk s2 _ ⟨D, rfl, q2, hD0, ⟨xs, q1, ra⟩, fun j s ej hs w => ?_, hPD⟩
        rcases restE_get ej with ⟨m, rfl | ⟨d, rfl, e0⟩⟩ | ⟨m, z⟩
        · cases hs
        · cases hs
        · exact q3 j s z hs (by rw [wipe_get m]; exact w)
theorem de_comp {elt tg iter : Expr} {ifs : List Expr} {scope : Scope} {ιs : M (List D)} {τ : M Bool} {φ : M AV} {t : Tg} (own : List (Str × Nat)) (fit : Fit X b) (hN : X.N.Nodup) (hi : PI X tg iter (tI b W ιs)) (ok : BlkOk X.N X.env.scope scope own) (hsl : ∀ i ∈ t.slots, i ∈ own.map (·.2))
    (hg : ∀ (s : Shared) (H : Hp) (C : Addr) (cl : List (Str × Addr)) (fp : List Addr) (b : Bs), Fit (X.blk s H scope (compEnvC scope cl C X.env) fp) b → PG (X.blk s H scope (compEnvC scope cl C X.env) fp) tg (tGd b t))
    (ht : ∀ (s : Shared) (H : Hp) (C : Addr) (cl : List (Str × Addr)) (fp : List Addr), PTd (X.blk s H scope (compEnvC scope cl C X.env) fp) ifs τ)
    (he : ∀ (s : Shared) (H : Hp) (C : Addr) (cl : List (Str × Addr)) (fp : List Addr) (b : Bs), Fit (X.blk s H scope (compEnvC scope cl C X.env) fp) b → PE (X.blk s H scope (compEnvC scope cl C X.env) fp) elt (tE b W0 φ)) (hc : X.calm = true := by rfl) (hs : ∀ x, foldedSetIterable iter X.env x = pure x := by intro _; rfl) :
      PE X (.ListComp elt [⟨tg, iter, ifs, 0⟩] scope pos) (tE b W (mComp ιs (own.map (·.2)) t τ φ)) :=
  weakE (pe_lc (wi := tI b W ιs) (g := uG X.K X.mg t) (tt := uT X.K X.mg τ) (te := uE X.K X.mg φ) hc hN hi ok (fun s H C cl fp => pg_u (hg s H C cl fp)) (fun s H C cl fp => (ht s H C cl fp).run) (fun s H C cl fp => pe_u (he s H C cl fp)) hs) (comp_rd own fit hsl)
/-- name = [..], the name a plain local -/
theorem ds_setLc {i : Nat} {y : Str} {py spos : Pos} {elt tg iter : Expr} {ifs : List Expr} {scope : Scope} {ιs : M (List D)} {τ : M Bool} {φ : M AV} {t : Tg} (own : List (Str × Nat)) (fit : Fit X b) (hN : X.N.Nodup) (hy : X.N[i]? = some y) (hyl : X.env.scope.names.lookup y = some .local) (hi : PI X tg iter (tI b W ιs)) (ok : BlkOk X.N X.env.scope scope own) (hsl : ∀ i ∈ t.slots, i ∈ own.map (·.2))
    (hg : ∀ (s : Shared) (H : Hp) (C : Addr) (cl : List (Str × Addr)) (fp : List Addr) (b : Bs), Fit (X.blk s H scope (compEnvC scope cl C X.env) fp) b → PG (X.blk s H scope (compEnvC scope cl C X.env) fp) tg (tGd b t))
    (ht : ∀ (s : Shared) (H : Hp) (C : Addr) (cl : List (Str × Addr)) (fp : List Addr), PTd (X.blk s H scope (compEnvC scope cl C X.env) fp) ifs τ)
    (he : ∀ (s : Shared) (H : Hp) (C : Addr) (cl : List (Str × Addr)) (fp : List Addr) (b : Bs), Fit (X.blk s H scope (compEnvC scope cl C X.env) fp) b → PE (X.blk s H scope (compEnvC scope cl C X.env) fp) elt (tE b W0 φ)) (hc : X.calm = true := by rfl) (hs : ∀ x, foldedSetIterable iter X.env x = pure x := by intro _; rfl)
    (hsw : swapsWith (.ListComp elt [⟨tg, iter, ifs, 0⟩] scope pos) (some (.Name y py)) spos.line X.env = pure true := by rfl) :
    PS X (.Assign [.Name y py] (.ListComp elt [⟨tg, iter, ifs, 0⟩] scope pos) spos) (tS b W (mAsg i (mComp ιs (own.map (·.2)) t τ φ))) := by
  refine weakS (ps_setLc (wi := tI b W ιs) (g := uG X.K X.mg t) (tt := uT X.K X.mg τ) (te := uE X.K X.mg φ) hc hN hy hyl hsw hi ok (fun s H C cl fp => pg_u (hg s H C cl fp)) (fun s H C cl fp => (ht s H C cl fp).run) (fun s H C cl fp => pe_u (he s H C cl fp)) hs) fun D σ H ⟨F, ρ, k, h⟩ => ?_
  refine comp_rd own fit hsl σ H (fun x H1 => gName i x σ H1 D.nx) ?_
  refine runSE k h fun av v ρ1 F1 H1 k1 s1 r1 h1 => ?_
  obtain ⟨ρ2, F2, k2, s2, h2⟩ := Then.asg k1 r1 h1
  exact h2 _ F2 H1 k2 (Same.refl _)

end
end DL

namespace DL
open PySem PySem.Spec L2
theorem rcAt_V {A : Around} {s : Shared} {y x : V} {u v : Value} (ry : RelV y u) (rx : RelV x v) (fy : flatV y = true) (fx : flatV x = true) : SeqAt.RcAt A s u v (eqV y x) := by
  cases y with
  | non =>
    cases ry
    cases x with
    | non => cases rx; exact SeqAt.RcAt.none_none
    | bl b => cases rx; exact SeqAt.RcAt.none_bool b
    | int b => obtain ⟨t, rfl⟩ := rx; exact SeqAt.RcAt.none_int b t
    | str b => obtain ⟨t, rfl⟩ := rx; exact SeqAt.RcAt.none_str b t
    | _ => exact absurd (show false = true from fx) Bool.false_ne_true
  | bl a =>
    cases ry
    cases x with
    | non => cases rx; exact SeqAt.RcAt.bool_none a
    | bl b => cases rx; exact SeqAt.RcAt.bool_bool a b
    | int b => obtain ⟨t, rfl⟩ := rx; exact SeqAt.RcAt.bool_int a b t
    | str b => obtain ⟨t, rfl⟩ := rx; exact SeqAt.RcAt.bool_str a b t
    | _ => exact absurd (show false = true from fx) Bool.false_ne_true
  | int a =>
    obtain ⟨t', rfl⟩ := ry
    cases x with
    | non => cases rx; exact SeqAt.RcAt.int_none a t'
    | bl b => cases rx; exact SeqAt.RcAt.int_bool a t' b
    | int b => obtain ⟨t, rfl⟩ := rx; exact SeqAt.RcAt.int_int a t' b t
    | str b => obtain ⟨t, rfl⟩ := rx; exact SeqAt.RcAt.int_str a t' b t
    | _ => exact absurd (show false = true from fx) Bool.false_ne_true
  | str a =>
    obtain ⟨t', rfl⟩ := ry
    cases x with
    | non => cases rx; exact SeqAt.RcAt.str_none a t'
    | bl b => cases rx; exact SeqAt.RcAt.str_bool a t' b
    | int b => obtain ⟨t, rfl⟩ := rx; exact SeqAt.RcAt.str_int a t' b t
    | str b => obtain ⟨t, rfl⟩ := rx; exact SeqAt.RcAt.str_str a t' b t
    | _ => exact absurd (show false = true from fx) Bool.false_ne_true
  | _ => exact absurd (show false = true from fy) Bool.false_ne_true
theorem rcNeAt_V {A : Around} {s : Shared} {y x : V} {u v : Value} (ry : RelV y u) (rx : RelV x v) (fy : flatV y = true) (fx : flatV x = true) : SeqAt.RcNeAt A s u v (!eqV y x) := by
  cases y with
  | non =>
    cases ry
    cases x with
    | non => cases rx; exact SeqAt.RcNeAt.none_none
    | bl b => cases rx; exact SeqAt.RcNeAt.none_bool b
    | int b => obtain ⟨t, rfl⟩ := rx; exact SeqAt.RcNeAt.none_int b t
    | str b => obtain ⟨t, rfl⟩ := rx; exact SeqAt.RcNeAt.none_str b t
    | _ => exact absurd (show false = true from fx) Bool.false_ne_true
  | bl a =>
    cases ry
    cases x with
    | non => cases rx; exact SeqAt.RcNeAt.bool_none a
    | bl b => cases rx; exact SeqAt.RcNeAt.bool_bool a b
    | int b => obtain ⟨t, rfl⟩ := rx; exact SeqAt.RcNeAt.bool_int a b t
    | str b => obtain ⟨t, rfl⟩ := rx; exact SeqAt.RcNeAt.bool_str a b t
    | _ => exact absurd (show false = true from fx) Bool.false_ne_true
  | int a =>
    obtain ⟨t', rfl⟩ := ry
    cases x with
    | non => cases rx; exact SeqAt.RcNeAt.int_none a t'
    | bl b => cases rx; exact SeqAt.RcNeAt.int_bool a t' b
    | int b => obtain ⟨t, rfl⟩ := rx; exact SeqAt.RcNeAt.int_int a t' b t
    | str b => obtain ⟨t, rfl⟩ := rx; exact SeqAt.RcNeAt.int_str a t' b t
    | _ => exact absurd (show false = true from fx) Bool.false_ne_true
  | str a =>
    obtain ⟨t', rfl⟩ := ry
    cases x with
    | non => cases rx; exact SeqAt.RcNeAt.str_none a t'
    | bl b => cases rx; exact SeqAt.RcNeAt.str_bool a t' b
    | int b => obtain ⟨t, rfl⟩ := rx; exact SeqAt.RcNeAt.str_int a t' b t
    | str b => obtain ⟨t, rfl⟩ := rx; exact SeqAt.RcNeAt.str_str a t' b t
    | _ => exact absurd (show false = true from fx) Bool.false_ne_true
  | _ => exact absurd (show false = true from fy) Bool.false_ne_true
theorem EqAt_list_flat {A : Around} {s : Shared} {x : V} {v : Value} {l : Addr} {its : Array Value} (hl : s.heap.IsList l its) (hu : A.units < cLine) (rx : RelV x v) (fx : flatV x = true) : SeqAt.EqAt A s (.ref l) v false := by
  cases x with
  | non => cases rx; exact SeqAt.EqAt.list_none hl hu
  | bl b => cases rx; exact SeqAt.EqAt.list_bool b hl hu
  | int b => obtain ⟨t, rfl⟩ := rx; exact SeqAt.EqAt.list_int b t hl hu
  | str b => obtain ⟨t, rfl⟩ := rx; exact SeqAt.EqAt.list_str b t hl hu
  | _ => exact absurd (show false = true from fx) Bool.false_ne_true
theorem EqAt_flat_list {A : Around} {s : Shared} {x : V} {v : Value} {l : Addr} {its : Array Value} (hl : s.heap.IsList l its) (hu : A.units < cLine) (rx : RelV x v) (fx : flatV x = true) : SeqAt.EqAt A s v (.ref l) false := by
  cases x with
  | non => cases rx; exact SeqAt.EqAt.none_list hl hu
  | bl b => cases rx; exact SeqAt.EqAt.bool_list b hl hu
  | int b => obtain ⟨t, rfl⟩ := rx; exact SeqAt.EqAt.int_list b t hl hu
  | str b => obtain ⟨t, rfl⟩ := rx; exact SeqAt.EqAt.str_list b t hl hu
  | _ => exact absurd (show false = true from fx) Bool.false_ne_true
theorem EqAt_tuple_flat {A : Around} {s : Shared} {x : V} {v : Value} {l : Addr} {its : Array Value} (hl : s.heap.IsTuple l its) (hu : A.units < cLine) (rx : RelV x v) (fx : flatV x = true) : SeqAt.EqAt A s (.ref l) v false := by
  cases x with
  | non => cases rx; exact SeqAt.EqAt.tuple_none hl hu
  | bl b => cases rx; exact SeqAt.EqAt.tuple_bool b hl hu
  | int b => obtain ⟨t, rfl⟩ := rx; exact SeqAt.EqAt.tuple_int b t hl hu
  | str b => obtain ⟨t, rfl⟩ := rx; exact SeqAt.EqAt.tuple_str b t hl hu
  | _ => exact absurd (show false = true from fx) Bool.false_ne_true
theorem EqAt_flat_tuple {A : Around} {s : Shared} {x : V} {v : Value} {l : Addr} {its : Array Value} (hl : s.heap.IsTuple l its) (hu : A.units < cLine) (rx : RelV x v) (fx : flatV x = true) : SeqAt.EqAt A s v (.ref l) false := by
  cases x with
  | non => cases rx; exact SeqAt.EqAt.none_tuple hl hu
  | bl b => cases rx; exact SeqAt.EqAt.bool_tuple b hl hu
  | int b => obtain ⟨t, rfl⟩ := rx; exact SeqAt.EqAt.int_tuple b t hl hu
  | str b => obtain ⟨t, rfl⟩ := rx; exact SeqAt.EqAt.str_tuple b t hl hu
  | _ => exact absurd (show false = true from fx) Bool.false_ne_true
theorem RcAt_list_flat {A : Around} {s : Shared} {x : V} {v : Value} {l : Addr} {its : Array Value} (hl : s.heap.IsList l its) (hu : A.units < cLine) (rx : RelV x v) (fx : flatV x = true) : SeqAt.RcAt A s (.ref l) v false := by
  cases x with
  | non => cases rx; exact SeqAt.RcAt.list_none hl hu
  | bl b => cases rx; exact SeqAt.RcAt.list_bool b hl hu
  | int b => obtain ⟨t, rfl⟩ := rx; exact SeqAt.RcAt.list_int b t hl hu
  | str b => obtain ⟨t, rfl⟩ := rx; exact SeqAt.RcAt.list_str b t hl hu
  | _ => exact absurd (show false = true from fx) Bool.false_ne_true
theorem RcAt_flat_list {A : Around} {s : Shared} {x : V} {v : Value} {l : Addr} {its : Array Value} (hl : s.heap.IsList l its) (hu : A.units < cLine) (rx : RelV x v) (fx : flatV x = true) : SeqAt.RcAt A s v (.ref l) false := by
  cases x with
  | non => cases rx; exact SeqAt.RcAt.none_list hl hu
  | bl b => cases rx; exact SeqAt.RcAt.bool_list b hl hu
  | int b => obtain ⟨t, rfl⟩ := rx; exact SeqAt.RcAt.int_list b t hl hu
  | str b => obtain ⟨t, rfl⟩ := rx; exact SeqAt.RcAt.str_list b t hl hu
  | _ => exact absurd (show false = true from fx) Bool.false_ne_true
theorem RcAt_tuple_flat {A : Around} {s : Shared} {x : V} {v : Value} {l : Addr} {its : Array Value} (hl : s.heap.IsTuple l its) (hu : A.units < cLine) (rx : RelV x v) (fx : flatV x = true) : SeqAt.RcAt A s (.ref l) v false := by
  cases x with
  | non => cases rx; exact SeqAt.RcAt.tuple_none hl hu
  | bl b => cases rx; exact SeqAt.RcAt.tuple_bool b hl hu
  | int b => obtain ⟨t, rfl⟩ := rx; exact SeqAt.RcAt.tuple_int b t hl hu
  | str b => obtain ⟨t, rfl⟩ := rx; exact SeqAt.RcAt.tuple_str b t hl hu
  | _ => exact absurd (show false = true from fx) Bool.false_ne_true
theorem RcAt_flat_tuple {A : Around} {s : Shared} {x : V} {v : Value} {l : Addr} {its : Array Value} (hl : s.heap.IsTuple l its) (hu : A.units < cLine) (rx : RelV x v) (fx : flatV x = true) : SeqAt.RcAt A s v (.ref l) false := by
  cases x with
  | non => cases rx; exact SeqAt.RcAt.none_tuple hl hu
  | bl b => cases rx; exact SeqAt.RcAt.bool_tuple b hl hu
  | int b => obtain ⟨t, rfl⟩ := rx; exact SeqAt.RcAt.int_tuple b t hl hu
  | str b => obtain ⟨t, rfl⟩ := rx; exact SeqAt.RcAt.str_tuple b t hl hu
  | _ => exact absurd (show false = true from fx) Bool.false_ne_true
theorem RcNeAt_list_flat {A : Around} {s : Shared} {x : V} {v : Value} {l : Addr} {its : Array Value} (hl : s.heap.IsList l its) (hu : A.units < cLine) (rx : RelV x v) (fx : flatV x = true) : SeqAt.RcNeAt A s (.ref l) v true := by
  cases x with
  | non => cases rx; exact SeqAt.RcNeAt.list_none hl hu
  | bl b => cases rx; exact SeqAt.RcNeAt.list_bool b hl hu
  | int b => obtain ⟨t, rfl⟩ := rx; exact SeqAt.RcNeAt.list_int b t hl hu
  | str b => obtain ⟨t, rfl⟩ := rx; exact SeqAt.RcNeAt.list_str b t hl hu
  | _ => exact absurd (show false = true from fx) Bool.false_ne_true
theorem RcNeAt_flat_list {A : Around} {s : Shared} {x : V} {v : Value} {l : Addr} {its : Array Value} (hl : s.heap.IsList l its) (hu : A.units < cLine) (rx : RelV x v) (fx : flatV x = true) : SeqAt.RcNeAt A s v (.ref l) true := by
  cases x with
  | non => cases rx; exact SeqAt.RcNeAt.none_list hl hu
  | bl b => cases rx; exact SeqAt.RcNeAt.bool_list b hl hu
  | int b => obtain ⟨t, rfl⟩ := rx; exact SeqAt.RcNeAt.int_list b t hl hu
  | str b => obtain ⟨t, rfl⟩ := rx; exact SeqAt.RcNeAt.str_list b t hl hu
  | _ => exact absurd (show false = true from fx) Bool.false_ne_true
theorem RcNeAt_tuple_flat {A : Around} {s : Shared} {x : V} {v : Value} {l : Addr} {its : Array Value} (hl : s.heap.IsTuple l its) (hu : A.units < cLine) (rx : RelV x v) (fx : flatV x = true) : SeqAt.RcNeAt A s (.ref l) v true := by
  cases x with
  | non => cases rx; exact SeqAt.RcNeAt.tuple_none hl hu
  | bl b => cases rx; exact SeqAt.RcNeAt.tuple_bool b hl hu
  | int b => obtain ⟨t, rfl⟩ := rx; exact SeqAt.RcNeAt.tuple_int b t hl hu
  | str b => obtain ⟨t, rfl⟩ := rx; exact SeqAt.RcNeAt.tuple_str b t hl hu
  | _ => exact absurd (show false = true from fx) Bool.false_ne_true
theorem RcNeAt_flat_tuple {A : Around} {s : Shared} {x : V} {v : Value} {l : Addr} {its : Array Value} (hl : s.heap.IsTuple l its) (hu : A.units < cLine) (rx : RelV x v) (fx : flatV x = true) : SeqAt.RcNeAt A s v (.ref l) true := by
  cases x with
  | non => cases rx; exact SeqAt.RcNeAt.none_tuple hl hu
  | bl b => cases rx; exact SeqAt.RcNeAt.bool_tuple b hl hu
  | int b => obtain ⟨t, rfl⟩ := rx; exact SeqAt.RcNeAt.int_tuple b t hl hu
  | str b => obtain ⟨t, rfl⟩ := rx; exact SeqAt.RcNeAt.str_tuple b t hl hu
  | _ => exact absurd (show false = true from fx) Bool.false_ne_true
/-! ### == of data -/
def fl : D → Option V
  | .non => some .non
  | .bl b => some (.bl b)
  | .int i => some (.int i)
  | .str x => some (.str x)
  | _ => none
mutual
def eqD : D → Nat → D → Option Bool
  | .lst xs, n, e => match e with
    | .lst ys => match n with
      | 0 => none
      | m + 1 => if xs.length = ys.length then eqL xs m ys else some false
    | .tup _ => some false
    | e => (fl e).map fun _ => false
  | .tup xs, n, e => match e with
    | .tup ys => match n with
      | 0 => none
      | m + 1 => (eqL xs m ys).map fun k => k && xs.length == ys.length
    | .lst _ => some false
    | e => (fl e).map fun _ => false
  | .non, _, e => match e with
    | .lst _ => some false
    | .tup _ => some false
    | e => (fl e).map (eqV .non)
  | .bl b, _, e => match e with
    | .lst _ => some false
    | .tup _ => some false
    | e => (fl e).map (eqV (.bl b))
  | .int b, _, e => match e with
    | .lst _ => some false
    | .tup _ => some false
    | e => (fl e).map (eqV (.int b))
  | .str b, _, e => match e with
    | .lst _ => some false
    | .tup _ => some false
    | e => (fl e).map (eqV (.str b))
  | _, _, _ => none
def eqL : List D → Nat → List D → Option Bool
  | x :: xs, n, y :: ys => match eqD x n y, eqL xs n ys with
    | some a, some c => some (a && c)
    | _, _ => none
  | _, _, _ => some true
end
theorem fl_rep {K : PySem.W.Frag} {mg : Str → Option Value} {F : Hp} {d : D} {x v : V} (h : fl d = some x) (r : Rep K mg F d v) : v = x ∧ flatV x = true := by
  cases d with
  | non => cases h; unfold Rep at r; exact ⟨r, rfl⟩
  | bl b => cases h; unfold Rep at r; exact ⟨r, rfl⟩
  | int b => cases h; unfold Rep at r; exact ⟨r, rfl⟩
  | str b => cases h; unfold Rep at r; exact ⟨r, rfl⟩
  | _ => cases h
theorem fl_own {K : PySem.W.Frag} {mg : Str → Option Value} {F H : Hp} {d : D} {x : V} {a : Addr} (h : fl d = some x) (r : OwnAt K mg F H a d) : False := by
  cases d with
  | lst _ => cases h
  | dct _ => cases h
  | ins _ _ => cases h
  | _ => exact r.elim
/-- the two sides of a list or tuple that is read -/
theorem RepD.lst {K : PySem.W.Frag} {mg : Str → Option Value} {F H : Hp} {ds : List D} {v : V} (s : Sub F H) (r : RepD K mg F H (.lst ds) v) : ∃ a xs, v = .ref a ∧ H a = some (.lst xs) ∧ RepL K mg F ds xs := by
  rcases r with r | ⟨a, rfl, xs, e, l⟩
  · unfold Rep at r
    obtain ⟨a, xs, rfl, e, l⟩ := r
    exact ⟨a, xs, rfl, s.lst e, l⟩
  · exact ⟨a, xs, rfl, e, l⟩
theorem RepD.tup {K : PySem.W.Frag} {mg : Str → Option Value} {F H : Hp} {ds : List D} {v : V} (s : Sub F H) (r : RepD K mg F H (.tup ds) v) : ∃ a xs, v = .ref a ∧ SqT K H a xs ∧ RepL K mg F ds xs := by
  rcases r with r | ⟨a, rfl, oa⟩
  · unfold Rep at r
    obtain ⟨a, xs, rfl, e, l⟩ := r
    exact ⟨a, xs, rfl, s.sqT e, l⟩
  · exact oa.elim
theorem RepD.flat {K : PySem.W.Frag} {mg : Str → Option Value} {F H : Hp} {d : D} {x v : V} (h : fl d = some x) (r : RepD K mg F H d v) : v = x ∧ flatV x = true := by
  rcases r with r | ⟨a, _, oa⟩
  · exact fl_rep h r
  · exact (fl_own h oa).elim
section
variable {X : Cx} {pins : List (Addr × Obj)} {σ : St} {F H : Hp} {s : Shared} {mg : Str → Option Value}
theorem eqL_get : ∀ {xs : List D} {n : Nat} {ys : List D} {b : Bool}, eqL xs n ys = some b → ∃ e : Nat → Bool, (∀ (i : Nat) (x y : D), xs[i]? = some x → ys[i]? = some y → eqD x n y = some (e i)) ∧ (List.range (min xs.length ys.length)).all e = b
  | [], n, ys, b, h => by
    unfold eqL at h; cases h
    exact ⟨fun _ => true, fun i x y e => (by cases e), by simp⟩
  | x :: xs, n, [], b, h => by
    unfold eqL at h; cases h
    exact ⟨fun _ => true, fun i x y _ e => (by cases e), by simp⟩
  | x :: xs, n, y :: ys, b, h => by
    unfold eqL at h
    cases e1 : eqD x n y with
    | none => rw [e1] at h; cases h
    | some a =>
      rw [e1] at h
      cases e2 : eqL xs n ys with
      | none => rw [e2] at h; cases h
      | some c =>
        rw [e2] at h; cases h
        obtain ⟨e, h1, h2⟩ := eqL_get e2
        refine ⟨fun i => match i with | 0 => a | i + 1 => e i, fun i x' y' ex ey => ?_, ?_⟩
        · cases i with
          | zero => cases ex; cases ey; exact e1
          | succ i => exact h1 i x' y' ex ey
        · have hm : min (x :: xs).length (y :: ys).length = min xs.length ys.length + 1 := by simp only [List.length_cons]; omega
          rw [hm, List.range_succ_eq_map, List.all_cons, List.all_map]
          show (a && (List.range (min xs.length ys.length)).all e) = (a && c)
          rw [h2]
/-- items: data, values, the heap's values -/
theorem item_at {K : PySem.W.Frag} {ds : List D} {vs : List V} {us : List Value} (l : RepL K mg F ds vs) (r : Vals vs us) {i : Nat} (hi : i < us.length) : ∃ d v, ds[i]? = some d ∧ Rep K mg F d v ∧ RelV v us[i] := by
  have h1 : i < vs.length := by rw [r.length]; exact hi
  have h2 : i < ds.length := by rw [l.len]; exact h1
  obtain ⟨v, ev, rv⟩ := l.get (List.getElem?_eq_getElem h2)
  obtain ⟨u, eu, ru⟩ := r.get ev
  rw [List.getElem?_eq_getElem hi] at eu
  cases eu
  exact ⟨ds[i], v, List.getElem?_eq_getElem h2, rv, ru⟩
theorem eqV_self {x : V} (h : flatV x = true) : eqV x x = true := by
  cases x with
  | non => rfl
  | bl b => simp [eqV]
  | int b => simp [eqV]
  | str b => simp [eqV]
  | _ => cases h
theorem eqD_flat {d e : D} {x : V} {n : Nat} (h : fl d = some x) : eqD d n e = match e with
    | .lst _ => some false
    | .tup _ => some false
    | e => (fl e).map (eqV x) := by
  cases d with
  | non => cases h; unfold eqD; rfl
  | bl b => cases h; unfold eqD; rfl
  | int b => cases h; unfold eqD; rfl
  | str b => cases h; unfold eqD; rfl
  | _ => cases h
theorem eqD_flat_same {K : PySem.W.Frag} {F H : Hp} {d e : D} {x v : V} {n : Nat} {b : Bool} (hx : fl d = some x) (sb : Sub F H) (r1 : RepD K mg F H d v) (r2 : RepD K mg F H e v) (h : eqD d n e = some b) : b = true := by
  obtain ⟨rfl, fx⟩ := r1.flat hx
  rw [eqD_flat hx] at h
  have nr : ∀ a, v ≠ .ref a := fun a q => by rw [q] at fx; cases fx
  cases e with
  | lst es =>
    obtain ⟨a, _, ea, _⟩ := r2.lst sb
    exact absurd ea (nr a)
  | tup es =>
    obtain ⟨a, _, ea, _⟩ := r2.tup sb
    exact absurd ea (nr a)
  | non => obtain ⟨rfl, f⟩ := r2.flat rfl; cases h; exact eqV_self f
  | bl c => obtain ⟨rfl, f⟩ := r2.flat rfl; cases h; exact eqV_self f
  | int c => obtain ⟨rfl, f⟩ := r2.flat rfl; cases h; exact eqV_self f
  | str c => obtain ⟨rfl, f⟩ := r2.flat rfl; cases h; exact eqV_self f
  | _ => cases h
mutual
theorem eqD_same (I : Inv X pins σ H s) (sb : Sub F H) : ∀ (d : D) {n : Nat} {e : D} {v : V} {b : Bool}, RepD X.K mg F H d v → RepD X.K mg F H e v → eqD d n e = some b → b = true
  | .lst ds, n, e, v, b, r1, r2, h => by
    obtain ⟨a, xs, rfl, e1, l1⟩ := r1.lst sb
    unfold eqD at h
    cases e with
    | lst es =>
      obtain ⟨a2, ys, ea, e2, l2⟩ := r2.lst sb
      cases ea
      rw [e1] at e2; cases e2
      cases n with
      | zero => cases h
      | succ n =>
        dsimp only at h
        rw [if_pos (by rw [l1.len, l2.len])] at h
        exact eqL_same I sb ds l1 l2 h
    | tup es =>
      obtain ⟨a2, ys, ea, e2, l2⟩ := r2.tup sb
      cases ea
      obtain ⟨_, _, pl, _⟩ := I.list (SqL.of e1)
      obtain ⟨_, _, pt, _⟩ := I.tuple e2
      exact absurd rfl (SeqAt.ne_of_list_tuple pl.isList pt)
    | _ =>
      first
        | (obtain ⟨z, _⟩ := RepD.flat (x := _) rfl r2; cases z)
        | cases h
  | .tup ds, n, e, v, b, r1, r2, h => by
    obtain ⟨a, xs, rfl, e1, l1⟩ := r1.tup sb
    unfold eqD at h
    cases e with
    | tup es =>
      obtain ⟨a2, ys, ea, e2, l2⟩ := r2.tup sb
      cases ea
      have := I.tuple_inj e1 e2
      subst this
      cases n with
      | zero => cases h
      | succ n =>
        dsimp only at h
        cases e3 : eqL ds n es with
        | none => rw [e3] at h; cases h
        | some c =>
          rw [e3] at h
          have hc := eqL_same I sb ds l1 l2 e3
          have hl : ds.length = es.length := by rw [l1.len, l2.len]
          cases h
          rw [hc, hl]; simp
    | lst es =>
      obtain ⟨a2, ys, ea, e2, l2⟩ := r2.lst sb
      cases ea
      obtain ⟨_, _, pl, _⟩ := I.list (SqL.of e2)
      obtain ⟨_, _, pt, _⟩ := I.tuple e1
      exact absurd rfl (SeqAt.ne_of_list_tuple pl.isList pt)
    | _ =>
      first
        | (obtain ⟨z, _⟩ := RepD.flat (x := _) rfl r2; cases z)
        | cases h
  | .non, n, e, v, b, r1, r2, h => eqD_flat_same rfl sb r1 r2 h
  | .bl c, n, e, v, b, r1, r2, h => eqD_flat_same rfl sb r1 r2 h
  | .int c, n, e, v, b, r1, r2, h => eqD_flat_same rfl sb r1 r2 h
  | .str c, n, e, v, b, r1, r2, h => eqD_flat_same rfl sb r1 r2 h
  | .dct _, n, e, v, b, r1, r2, h => by unfold eqD at h; cases h
  | .ins _ _, n, e, v, b, r1, r2, h => by unfold eqD at h; cases h
  | .scr _, n, e, v, b, r1, r2, h => by unfold eqD at h; cases h
theorem eqL_same (I : Inv X pins σ H s) (sb : Sub F H) : ∀ (ds : List D) {n : Nat} {es : List D} {vs : List V} {b : Bool}, RepL X.K mg F ds vs → RepL X.K mg F es vs → eqL ds n es = some b → b = true
  | [], n, es, vs, b, r1, r2, h => by unfold eqL at h; cases h; rfl
  | d :: ds, n, [], vs, b, r1, r2, h => by unfold eqL at h; cases h; rfl
  | d :: ds, n, e :: es, vs, b, r1, r2, h => by
    unfold eqL at h
    unfold RepL at r1 r2
    obtain ⟨v, s, rfl, q1, l1⟩ := r1
    obtain ⟨v2, s2, ee, q2, l2⟩ := r2
    cases ee
    cases e1 : eqD d n e with
    | none => rw [e1] at h; cases h
    | some a =>
      rw [e1] at h
      cases e2 : eqL ds n es with
      | none => rw [e2] at h; cases h
      | some c =>
        rw [e2] at h; cases h
        rw [eqD_same I sb d (.inl q1) (.inl q2) e1, eqL_same I sb ds l1 l2 e2]
        rfl
end
/-- a list's, a tuple's items in the heap -/
theorem heapL (I : Inv X pins σ H s) {a : Addr} {xs : List V} (h : H a = some (.lst xs)) : ∃ its : List Value, Vals xs its ∧ s.heap.IsList a its.toArray := by
  obtain ⟨its, r, pl, _⟩ := I.list (SqL.of h)
  exact ⟨its, r, pl.isList⟩
theorem heapT (I : Inv X pins σ H s) {a : Addr} {xs : List V} (h : SqT X.K H a xs) : ∃ its : List Value, Vals xs its ∧ s.heap.IsTuple a its.toArray := by
  obtain ⟨its, r, pl, _⟩ := I.tuple h
  exact ⟨its, r, pl⟩
theorem toA {α : Type} (l : List α) (j : Nat) (h : j < l.toArray.size) : l.toArray[j] = l[j]'(by simpa using h) := by simp
/-- the comparison itself, from the items' -/
theorem rcD (I : Inv X pins σ H s) (sb : Sub F H) (n : Nat)
    (ih : ∀ m, m < n → ∀ {d e : D} {v u : V} {vv uu : Value} {b : Bool}, RepD X.K mg F H d v → RepD X.K mg F H e u → RelV v vv → RelV u uu → eqD d m e = some b → ∀ A : Around, A.units + m + 1 < cLine → SeqAt.EqAt A s vv uu b)
    {d e : D} {v u : V} {vv uu : Value} {b : Bool} (r1 : RepD X.K mg F H d v) (r2 : RepD X.K mg F H e u) (q1 : RelV v vv) (q2 : RelV u uu) (h : eqD d n e = some b) (A : Around) (hu : A.units + n + 1 < cLine) :
    SeqAt.RcAt A s vv uu b ∧ SeqAt.RcNeAt A s vv uu (!b) := by
  have hu0 : A.units < cLine := by omega
  -- the items of two sequences
  have items : ∀ {ds es : List D} {xs ys : List V} {its its2 : List Value} {m : Nat} {c : Bool}, m < n → RepL X.K mg F ds xs → RepL X.K mg F es ys → Vals xs its → Vals ys its2 → eqL ds m es = some c →
      ∃ e : Nat → Bool, (∀ j (h1 : j < its.toArray.size) (h2 : j < its2.toArray.size), SeqAt.EqAt A.in1 s its.toArray[j] its2.toArray[j] (e j)) ∧ (List.range (min its.toArray.size its2.toArray.size)).all e = c := fun {ds es xs ys its its2 m c} hm l1 l2 t1 t2 hq => by
    obtain ⟨e, h1, h2⟩ := eqL_get hq
    refine ⟨e, fun j g1 g2 => ?_, ?_⟩
    · have g1' : j < its.length := by simpa using g1
      have g2' : j < its2.length := by simpa using g2
      obtain ⟨d1, v1, e1, p1, w1⟩ := item_at l1 t1 g1'
      obtain ⟨d2, v2, e2, p2, w2⟩ := item_at l2 t2 g2'
      rw [toA its j g1, toA its2 j g2]
      exact ih m hm (.inl p1) (.inl p2) w1 w2 (h1 j d1 d2 e1 e2) A.in1 (by show A.units + 1 + m + 1 < cLine; omega)
    · rw [← h2, l1.len, l2.len, t1.length, t2.length, List.size_toArray, List.size_toArray]
  -- flat on the left
  have flatL : ∀ {x : V}, fl d = some x → SeqAt.RcAt A s vv uu b ∧ SeqAt.RcNeAt A s vv uu (!b) := fun {x} hx => by
    obtain ⟨rfl, fx⟩ := r1.flat hx
    rw [eqD_flat hx] at h
    have both : ∀ {y : V}, fl e = some y → (fl e).map (eqV v) = some b → SeqAt.RcAt A s vv uu b ∧ SeqAt.RcNeAt A s vv uu (!b) := fun {y} hy h => by
      obtain ⟨rfl, fy⟩ := r2.flat hy
      rw [hy] at h
      cases h
      exact ⟨rcAt_V q1 q2 fx fy, rcNeAt_V q1 q2 fx fy⟩
    cases e with
    | lst es =>
      obtain ⟨a, ys, rfl, e2, l2⟩ := r2.lst sb
      cases h; cases q2
      obtain ⟨its, _, hl⟩ := heapL I e2
      exact ⟨RcAt_flat_list hl hu0 q1 fx, RcNeAt_flat_list hl hu0 q1 fx⟩
    | tup es =>
      obtain ⟨a, ys, rfl, e2, l2⟩ := r2.tup sb
      cases h; cases q2
      obtain ⟨its, _, hl⟩ := heapT I e2
      exact ⟨RcAt_flat_tuple hl hu0 q1 fx, RcNeAt_flat_tuple hl hu0 q1 fx⟩
    | non => exact both rfl h
    | bl c => exact both rfl h
    | int c => exact both rfl h
    | str c => exact both rfl h
    | _ => cases h
  cases d with
  | non => exact flatL rfl
  | bl c => exact flatL rfl
  | int c => exact flatL rfl
  | str c => exact flatL rfl
  | dct _ => unfold eqD at h; cases h
  | ins _ _ => unfold eqD at h; cases h
  | scr _ => unfold eqD at h; cases h
  | lst ds =>
    obtain ⟨a, xs, rfl, e1, l1⟩ := r1.lst sb
    cases q1
    obtain ⟨its, t1, hl⟩ := heapL I e1
    unfold eqD at h
    have other : ∀ {y : V}, fl e = some y → b = false → SeqAt.RcAt A s (.ref a) uu b ∧ SeqAt.RcNeAt A s (.ref a) uu (!b) := fun {y} hy hb => by
      obtain ⟨rfl, fy⟩ := r2.flat hy
      subst hb
      exact ⟨RcAt_list_flat hl hu0 q2 fy, RcNeAt_list_flat hl hu0 q2 fy⟩
    cases e with
    | lst es =>
      obtain ⟨a2, ys, rfl, e2, l2⟩ := r2.lst sb
      cases q2
      obtain ⟨its2, t2, hl2⟩ := heapL I e2
      cases n with
      | zero => cases h
      | succ n =>
        dsimp only at h
        by_cases hlen : ds.length = es.length
        · rw [if_pos hlen] at h
          obtain ⟨ef, he, hc⟩ := items (Nat.lt_succ_self n) l1 l2 t1 t2 h
          have hsz : its.toArray.size = its2.toArray.size := by rw [List.size_toArray, List.size_toArray, ← t1.length, ← t2.length, ← l1.len, ← l2.len, hlen]
          rw [hsz, Nat.min_self] at hc
          rw [← hc, ← hsz]
          exact ⟨SeqAt.RcAt.lists hl hl2 hsz hu0 he, SeqAt.RcNeAt.lists hl hl2 hsz hu0 he⟩
        · rw [if_neg hlen] at h
          cases h
          have hsz : (its.toArray.size != its2.toArray.size) = true := by
            rw [List.size_toArray, List.size_toArray, ← t1.length, ← t2.length, ← l1.len, ← l2.len]
            simpa using hlen
          exact ⟨SeqAt.RcAt.lists_lengths hl hl2 hsz hu0, SeqAt.RcNeAt.lists_lengths hl hl2 hsz hu0⟩
    | tup es =>
      obtain ⟨a2, ys, rfl, e2, l2⟩ := r2.tup sb
      cases q2
      obtain ⟨its2, t2, hl2⟩ := heapT I e2
      cases h
      exact ⟨SeqAt.RcAt.list_tuple hl hl2 hu0, SeqAt.RcNeAt.list_tuple hl hl2 hu0⟩
    | non => cases h; exact other rfl rfl
    | bl c => cases h; exact other rfl rfl
    | int c => cases h; exact other rfl rfl
    | str c => cases h; exact other rfl rfl
    | _ => cases h
  | tup ds =>
    obtain ⟨a, xs, rfl, e1, l1⟩ := r1.tup sb
    cases q1
    obtain ⟨its, t1, hl⟩ := heapT I e1
    unfold eqD at h
    have other : ∀ {y : V}, fl e = some y → b = false → SeqAt.RcAt A s (.ref a) uu b ∧ SeqAt.RcNeAt A s (.ref a) uu (!b) := fun {y} hy hb => by
      obtain ⟨rfl, fy⟩ := r2.flat hy
      subst hb
      exact ⟨RcAt_tuple_flat hl hu0 q2 fy, RcNeAt_tuple_flat hl hu0 q2 fy⟩
    cases e with
    | tup es =>
      obtain ⟨a2, ys, rfl, e2, l2⟩ := r2.tup sb
      cases q2
      obtain ⟨its2, t2, hl2⟩ := heapT I e2
      cases n with
      | zero => cases h
      | succ n =>
        dsimp only at h
        cases e3 : eqL ds n es with
        | none => rw [e3] at h; cases h
        | some c =>
          rw [e3] at h
          cases h
          obtain ⟨ef, he, hc⟩ := items (Nat.lt_succ_self n) l1 l2 t1 t2 e3
          have hs1 : ds.length = its.toArray.size := by rw [List.size_toArray, ← t1.length, ← l1.len]
          have hs2 : es.length = its2.toArray.size := by rw [List.size_toArray, ← t2.length, ← l2.len]
          rw [← hc, hs1, hs2]
          exact ⟨SeqAt.RcAt.tuples hl hl2 hu0 he, SeqAt.RcNeAt.tuples hl hl2 hu0 he⟩
    | lst es =>
      obtain ⟨a2, ys, rfl, e2, l2⟩ := r2.lst sb
      cases q2
      obtain ⟨its2, t2, hl2⟩ := heapL I e2
      cases h
      exact ⟨SeqAt.RcAt.tuple_list hl hl2 hu0, SeqAt.RcNeAt.tuple_list hl hl2 hu0⟩
    | non => cases h; exact other rfl rfl
    | bl c => cases h; exact other rfl rfl
    | int c => cases h; exact other rfl rfl
    | str c => cases h; exact other rfl rfl
    | _ => cases h
theorem refOf {K : PySem.W.Frag} {F H : Hp} {d : D} {v : V} (sb : Sub F H) (r : RepD K mg F H d v) (h : (∃ l, d = .lst l) ∨ ∃ l, d = .tup l) : ∃ a, v = .ref a := by
  rcases h with ⟨l, rfl⟩ | ⟨l, rfl⟩
  · obtain ⟨a, _, e, _⟩ := r.lst sb; exact ⟨a, e⟩
  · obtain ⟨a, _, e, _⟩ := r.tup sb; exact ⟨a, e⟩
theorem eqD_at (I : Inv X pins σ H s) (sb : Sub F H) : ∀ (n : Nat) {d e : D} {v u : V} {vv uu : Value} {b : Bool}, RepD X.K mg F H d v → RepD X.K mg F H e u → RelV v vv → RelV u uu → eqD d n e = some b → ∀ A : Around, A.units + n + 1 < cLine → SeqAt.EqAt A s vv uu b := by
  intro n
  induction n using Nat.strongRecOn with
  | _ n ih =>
    intro d e v u vv uu b r1 r2 q1 q2 h A hu
    have hu0 : A.units < cLine := by omega
    have rc := (rcD I sb n ih r1 r2 q1 q2 h A hu).1
    have refs : ∀ {a c : Addr}, v = .ref a → u = .ref c → SeqAt.EqAt A s vv uu b := fun {a c} e1 e2 => by
      subst e1; subst e2
      cases q1; cases q2
      by_cases hac : a = c
      · subst hac
        have := eqD_same I sb d r1 r2 h
        subst this
        exact SeqAt.EqAt.same _
      · exact SeqAt.EqAt.of_refs hac rc
    have flatL : ∀ {x : V}, fl d = some x → SeqAt.EqAt A s vv uu b := fun {x} hx => by
      obtain ⟨rfl, fx⟩ := r1.flat hx
      rw [eqD_flat hx] at h
      have both : ∀ {y : V}, fl e = some y → (fl e).map (eqV v) = some b → SeqAt.EqAt A s vv uu b := fun {y} hy h => by
        obtain ⟨rfl, fy⟩ := r2.flat hy
        rw [hy] at h
        cases h
        exact eqAt_V q1 q2 fx fy
      cases e with
      | lst es =>
        obtain ⟨a, ys, rfl, e2, l2⟩ := r2.lst sb
        cases h; cases q2
        obtain ⟨its, _, hl⟩ := heapL I e2
        exact EqAt_flat_list hl hu0 q1 fx
      | tup es =>
        obtain ⟨a, ys, rfl, e2, l2⟩ := r2.tup sb
        cases h; cases q2
        obtain ⟨its, _, hl⟩ := heapT I e2
        exact EqAt_flat_tuple hl hu0 q1 fx
      | non => exact both rfl h
      | bl c => exact both rfl h
      | int c => exact both rfl h
      | str c => exact both rfl h
      | _ => cases h
    have flatR : ∀ {a : Addr} {y : V}, ((∃ xs, H a = some (.lst xs)) ∨ ∃ xs, SqT X.K H a xs) → v = .ref a → fl e = some y → b = false → SeqAt.EqAt A s vv uu b := fun {a y} hs ea hy hb => by
      obtain ⟨rfl, fy⟩ := r2.flat hy
      subst ea; subst hb
      cases q1
      rcases hs with ⟨xs, hs⟩ | ⟨xs, hs⟩
      · obtain ⟨its, _, hl⟩ := heapL I hs
        exact EqAt_list_flat hl hu0 q2 fy
      · obtain ⟨its, _, hl⟩ := heapT I hs
        exact EqAt_tuple_flat hl hu0 q2 fy
    cases d with
    | non => exact flatL rfl
    | bl c => exact flatL rfl
    | int c => exact flatL rfl
    | str c => exact flatL rfl
    | dct _ => unfold eqD at h; cases h
    | ins _ _ => unfold eqD at h; cases h
    | scr _ => unfold eqD at h; cases h
    | lst ds =>
      obtain ⟨a, xs, rfl, e1, l1⟩ := id (r1.lst sb)
      unfold eqD at h
      cases e with
      | lst es => obtain ⟨c, ec⟩ := refOf sb r2 (.inl ⟨es, rfl⟩); exact refs rfl ec
      | tup es => obtain ⟨c, ec⟩ := refOf sb r2 (.inr ⟨es, rfl⟩); exact refs rfl ec
      | non => cases h; exact flatR (.inl ⟨xs, e1⟩) rfl rfl rfl
      | bl c => cases h; exact flatR (.inl ⟨xs, e1⟩) rfl rfl rfl
      | int c => cases h; exact flatR (.inl ⟨xs, e1⟩) rfl rfl rfl
      | str c => cases h; exact flatR (.inl ⟨xs, e1⟩) rfl rfl rfl
      | _ => cases h
    | tup ds =>
      obtain ⟨a, xs, rfl, e1, l1⟩ := id (r1.tup sb)
      unfold eqD at h
      cases e with
      | lst es => obtain ⟨c, ec⟩ := refOf sb r2 (.inl ⟨es, rfl⟩); exact refs rfl ec
      | tup es => obtain ⟨c, ec⟩ := refOf sb r2 (.inr ⟨es, rfl⟩); exact refs rfl ec
      | non => cases h; exact flatR (.inr ⟨xs, e1⟩) rfl rfl rfl
      | bl c => cases h; exact flatR (.inr ⟨xs, e1⟩) rfl rfl rfl
      | int c => cases h; exact flatR (.inr ⟨xs, e1⟩) rfl rfl rfl
      | str c => cases h; exact flatR (.inr ⟨xs, e1⟩) rfl rfl rfl
      | _ => cases h
end
def opEq (d e : D) : Option AV := (eqD d 40 e).map fun b => .fz (.bl b)
def opNe (d e : D) : Option AV := (eqD d 40 e).map fun b => .fz (.bl !b)
section
variable {X : Cx}
theorem gives_bl {b : Bs} {ρ : PySem.W.Frag → DL.Env} {σ : St} : True := trivial
theorem gBl {b : Bs} {ρ : DL.Env} {σ : St} {F H : Hp} {k : Bool} {Q : VK} (ok : Ok b ρ F H σ) (h : Gives b ρ σ F (some (.fz (.bl k))) Q) : Q (.bl k) H :=
  h (.bl k) F H ok (Same.refl _) (by show Rep _ _ _ _ _; unfold Rep; rfl)
theorem od_eq (hu : X.A.units + 64 < cLine) : OpD X (compareOp .Eq) opEq := by
  intro b fit pins s σ H x y v u Q I rx ry h
  obtain ⟨F, σ', ρ, dx, dy, ok, r1, r2, g⟩ := h
  unfold opEq at g
  cases e : eqD dx 40 dy with
  | none => rw [e] at g; exact g.elim
  | some k =>
    rw [e] at g
    have r1 : RepD b.K b.mg F H dx x := r1
    have r2 : RepD b.K b.mg F H dy y := r2
    rw [fit.K] at r1 r2
    have z := (rcD I ok.sub 40 (fun m _ => eqD_at I ok.sub m) r1 r2 rx ry e X.A (by omega)).1
    exact z X.prog X.w X.xe _ ⟨.bl k, H, I, rfl, gBl ok g⟩
theorem od_ne (hu : X.A.units + 64 < cLine) : OpD X (compareOp .NotEq) opNe := by
  intro b fit pins s σ H x y v u Q I rx ry h
  obtain ⟨F, σ', ρ, dx, dy, ok, r1, r2, g⟩ := h
  unfold opNe at g
  cases e : eqD dx 40 dy with
  | none => rw [e] at g; exact g.elim
  | some k =>
    rw [e] at g
    have r1 : RepD b.K b.mg F H dx x := r1
    have r2 : RepD b.K b.mg F H dy y := r2
    rw [fit.K] at r1 r2
    have z := (rcD I ok.sub 40 (fun m _ => eqD_at I ok.sub m) r1 r2 rx ry e X.A (by omega)).2
    exact z X.prog X.w X.xe _ ⟨.bl (!k), H, I, rfl, gBl ok g⟩
end
end DL

namespace DL
open PySem PySem.Spec L2

/-! ### operations on data -/
def opAdd : D → D → Option AV
  | .int i, .int j => some (.fz (.int (i + j)))
  | .str a, .str c => if a.length + c.length ≤ sizeLine then some (.fz (.str (a ++ c))) else none
  | .lst a, .lst c => if a.length + c.length ≤ sizeLine then some (.ow (.lst (a ++ c))) else none
  | .tup a, .tup c => if a ≠ [] ∧ c ≠ [] ∧ a.length + c.length ≤ sizeLine then some (.fz (.tup (a ++ c))) else none
  | _, _ => none
def opSub : D → D → Option AV
  | .int i, .int j => some (.fz (.int (i - j)))
  | _, _ => none
instance (i j : Int) : Decidable (CMul i j) := by unfold CMul; exact inferInstance
instance (i j : Int) : Decidable (CDiv i j) := by unfold CDiv; exact inferInstance
instance (i j : Int) : Decidable (CPow i j) := by unfold CPow; exact inferInstance
def repS (x : Str) (n : Nat) : Str := ⟨(List.replicate n x.cps).foldl (· ++ ·) #[]⟩
def opMul : D → D → Option AV
  | .str x, .int k => if 2 ≤ k ∧ k ≤ 1000 ∧ 0 < x.length ∧ x.length ≤ 1000 ∧ (repS x k.toNat).length ≤ sizeLine then some (.fz (.str (repS x k.toNat))) else none
  | .int i, .int j => if CMul i j then some (.fz (.int (i * j))) else none
  | .lst l, .int k => if -(2 ^ 63) ≤ k ∧ k < 2 ^ 63 ∧ l.length * k.toNat ≤ sizeLine then some (.ow (.lst (List.replicate k.toNat l).flatten)) else none
  | _, _ => none
def opMod : D → D → Option AV
  | .int i, .int j => if 0 < j then some (.fz (.int (i % j))) else none
  | _, _ => none
def opDiv : D → D → Option AV
  | .int i, .int j => if CDiv i j then some (.fz (.int (i / j))) else none
  | _, _ => none
def opPow : D → D → Option AV
  | .int i, .int j => if CPow i j then some (.fz (.int (i ^ j.toNat))) else none
  | _, _ => none
def unNeg : D → Option AV
  | .int i => some (.fz (.int (-i)))
  | _ => none
def ltS (a c : Str) : Bool := decide (a.cps.toList < c.cps.toList)
def opLt : D → D → Option AV
  | .int i, .int j => some (.fz (.bl (decide (i < j))))
  | .str i, .str j => some (.fz (.bl (ltS i j)))
  | _, _ => none
def opLe : D → D → Option AV
  | .int i, .int j => some (.fz (.bl (decide (i ≤ j))))
  | .str i, .str j => some (.fz (.bl (!ltS j i)))
  | _, _ => none
def opGt : D → D → Option AV
  | .int i, .int j => some (.fz (.bl (decide (j < i))))
  | .str i, .str j => some (.fz (.bl (ltS j i)))
  | _, _ => none
def opGe : D → D → Option AV
  | .int i, .int j => some (.fz (.bl (decide (j ≤ i))))
  | .str i, .str j => some (.fz (.bl (!ltS i j)))
  | _, _ => none
def isNon : D → Bool
  | .non => true
  | _ => false
def opIs (d e : D) : Option AV := if isNon e then some (.fz (.bl (isNon d))) else none
def opIsNot (d e : D) : Option AV := if isNon e then some (.fz (.bl (!isNon d))) else none
def keyOf : D → Option Key
  | .int i => some (.inl i)
  | .str x => some (.inr x)
  | _ => none
def getK : List (D × D) → Key → Option D
  | [], _ => none
  | (k, d) :: r, x => if keyOf k = some x then some d else getK r x
def putD (kvs : List (D × D)) (k v : D) : List (D × D) :=
  if (kvs.any fun p => decide (keyOf p.1 = keyOf k)) = true then kvs.map (fun p => if keyOf p.1 = keyOf k then (p.1, v) else p) else kvs ++ [(k, v)]
def dropD (kvs : List (D × D)) (k : D) : List (D × D) := kvs.filter fun p => decide (keyOf p.1 ≠ keyOf k)
def hasSub (s x : Str) : Bool := !(Builtin.Str.occurrences s x 0 s.length 1).isEmpty
def anyEq (x : D) : List D → Option Bool
  | [] => some false
  | y :: r => match eqD y 38 x with
    | none => none
    | some true => (anyEq x r).map fun _ => true
    | some false => anyEq x r
def inD : D → D → Option Bool
  | x, .lst ds => anyEq x ds
  | x, .tup ds => anyEq x ds
  | x, .dct kvs => (keyOf x).map fun k => (getK kvs k).isSome
  | .str x, .str s => some (hasSub s x)
  | _, _ => none
def opIn (d e : D) : Option AV := (inD d e).map fun b => .fz (.bl b)
def opNotIn (d e : D) : Option AV := (inD d e).map fun b => .fz (.bl !b)
def ixD : D → D → Option AV
  | .lst l, .int i => (atI l i).map .fz
  | .tup l, .int i => (atI l i).map .fz
  | .scr l, .int i => (atI l i).map fun n => .fz (.int n)
  | .str s, .int i => if s.length ≤ sizeLine then (atI s.cps.toList i).map fun c => .fz (signD c) else none
  | .dct kvs, k => (keyOf k).bind fun x => (getK kvs x).map .fz
  | _, _ => none

section
variable {b : Bs} {ρ : DL.Env} {σ : St} {F H : Hp} {Q : VK}
theorem gFz (ok : Ok b ρ F H σ) {d : D} {v : V} (h : Gives b ρ σ F (some (.fz d)) Q) (r : Rep b.K b.mg F d v) : Q v H := h v F H ok (Same.refl _) r
theorem gInt (ok : Ok b ρ F H σ) {i : Int} (h : Gives b ρ σ F (some (.fz (.int i))) Q) : Q (.int i) H := gFz ok h (by unfold Rep; rfl)
theorem gStr (ok : Ok b ρ F H σ) {i : Str} (h : Gives b ρ σ F (some (.fz (.str i))) Q) : Q (.str i) H := gFz ok h (by unfold Rep; rfl)
theorem gNon (ok : Ok b ρ F H σ) (h : Gives b ρ σ F (some (.fz .non)) Q) : Q .non H := gFz ok h (by unfold Rep; rfl)
/-- a new list -/
theorem gLst (ok : Ok b ρ F H σ) {ds : List D} {vs : List V} (h : Gives b ρ σ F (some (.ow (.lst ds))) Q) (r : RepL b.K b.mg F ds vs) : ∀ p, H p = none → Q (.ref p) (upd H p (.lst vs)) := fun p hp => by
  have g : Grow F H F (upd H p (.lst vs)) := Grow.owned ok.sub hp
  exact h _ F _ (ok.grow g) (Same.refl _) ⟨p, rfl, ok.fresh_F hp, ok.fresh_0 hp, ⟨vs, upd_same, r⟩, ok.apart_new hp, ok.prot_new hp⟩
/-- a new tuple -/
theorem gTup (ok : Ok b ρ F H σ) {ds : List D} {vs : List V} (h : Gives b ρ σ F (some (.fz (.tup ds))) Q) (r : RepL b.K b.mg F ds vs) : ∀ p, H p = none → Q (.ref p) (upd H p (.tup vs)) := fun p hp => by
  have g : Grow F H (upd F p (.tup vs)) (upd H p (.tup vs)) := Grow.frozen ok.sub hp
  refine h _ _ _ (ok.grow g) g.ext ?_
  show Rep _ _ _ _ _
  unfold Rep
  exact ⟨p, vs, rfl, SqT.of upd_same, r.mono g.ext⟩
theorem rInt {i : Int} {v : V} (r : Rd1 b F H (.int i) v) : v = .int i := (RepD.flat (d := .int i) rfl r).1
theorem rStr {i : Str} {v : V} (r : Rd1 b F H (.str i) v) : v = .str i := (RepD.flat (d := .str i) rfl r).1
theorem rBl {i : Bool} {v : V} (r : Rd1 b F H (.bl i) v) : v = .bl i := (RepD.flat (d := .bl i) rfl r).1
theorem rNon {v : V} (r : Rd1 b F H .non v) : v = .non := (RepD.flat (d := .non) rfl r).1
theorem RepL.append {K : PySem.W.Frag} {mg : Str → Option Value} {F : Hp} : ∀ {ds es : List D} {vs us : List V}, RepL K mg F ds vs → RepL K mg F es us → RepL K mg F (ds ++ es) (vs ++ us)
  | [], _, _, _, r, q => by unfold RepL at r; subst r; exact q
  | d :: ds, es, _, us, r, q => by
    unfold RepL at r
    obtain ⟨v, s, rfl, h, l⟩ := r
    show RepL K mg F (d :: (ds ++ es)) (v :: (s ++ us))
    unfold RepL
    exact ⟨v, s ++ us, rfl, h, RepL.append l q⟩
theorem RepL.nil_iff {K : PySem.W.Frag} {mg : Str → Option Value} {F : Hp} {ds : List D} {vs : List V} (r : RepL K mg F ds vs) : ds = [] ↔ vs = [] := by
  have := r.len
  constructor
  · rintro rfl; exact List.eq_nil_of_length_eq_zero this.symm
  · rintro rfl; exact List.eq_nil_of_length_eq_zero this
theorem RepL.rep {K : PySem.W.Frag} {mg : Str → Option Value} {F : Hp} {ds : List D} {vs : List V} (r : RepL K mg F ds vs) : ∀ k : Nat, RepL K mg F (List.replicate k ds).flatten (List.replicate k vs).flatten
  | 0 => by show RepL K mg F [] []; unfold RepL; rfl
  | k + 1 => by
    rw [List.replicate_succ, List.replicate_succ, List.flatten_cons, List.flatten_cons]
    exact r.append (RepL.rep r k)
end
theorem OpR.orD {X : Cx} {f : Value → Value → Sem Value} {r r' : R2} (h : OpR X f r) (h' : OpR X f r') : OpR X f (fun x y H Q => r x y H Q ∨ r' x y H Q) := by
  intro pins s σ H x y v u Q I rx ry q
  rcases q with q | q
  · exact h pins s σ H x y v u Q I rx ry q
  · exact h' pins s σ H x y v u Q I rx ry q
theorem weakO {X : Cx} {f : Value → Value → Sem Value} {r r' : R2} (h : OpR X f r) (i : ∀ x y H Q, r' x y H Q → r x y H Q) : OpR X f r' := fun pins s σ H x y v u Q I rx ry q => h pins s σ H x y v u Q I rx ry (i _ _ _ _ q)
section
variable {X : Cx}
theorem od_add : OpD X (binaryOp .Add) opAdd := by
  intro b fit
  refine weakO (OpR.orD op_add (OpR.orD op_add_str (OpR.orD op_cat op_catT))) fun x y H Q h => ?_
  obtain ⟨F, σ', ρ, dx, dy, ok, r1, r2, g⟩ := h
  unfold opAdd at g
  split at g
  · exact .inl ⟨_, _, rInt r1, rInt r2, gInt ok g⟩
  · split at g
    · rename_i hz
      exact .inr (.inl ⟨_, _, rStr r1, rStr r2, hz, gStr ok g⟩)
    · exact g.elim
  · split at g
    · rename_i hz
      obtain ⟨a, xs, rfl, e1, l1⟩ := RepD.lst ok.sub r1
      obtain ⟨c, ys, rfl, e2, l2⟩ := RepD.lst ok.sub r2
      exact .inr (.inr (.inl ⟨a, c, xs, ys, rfl, rfl, e1, e2, by rw [← l1.len, ← l2.len]; exact hz, gLst ok g (l1.append l2)⟩))
    · exact g.elim
  · split at g
    · rename_i hz
      obtain ⟨h1, h2, hz⟩ := hz
      obtain ⟨a, xs, rfl, e1, l1⟩ := RepD.tup ok.sub r1
      obtain ⟨c, ys, rfl, e2, l2⟩ := RepD.tup ok.sub r2
      rw [fit.K] at e1 e2
      exact .inr (.inr (.inr ⟨a, c, xs, ys, rfl, rfl, e1, e2, fun q => h1 (l1.nil_iff.mpr q), by rw [← l1.len, ← l2.len]; exact hz, fun q => absurd (l2.nil_iff.mpr q) h2, fun _ => gTup ok g (l1.append l2)⟩))
    · exact g.elim
  · exact g.elim
theorem od_sub : OpD X (binaryOp .Sub) opSub := by
  intro b fit
  refine weakO op_sub fun x y H Q ⟨F, σ', ρ, dx, dy, ok, r1, r2, g⟩ => ?_
  unfold opSub at g
  split at g
  · exact ⟨_, _, rInt r1, rInt r2, gInt ok g⟩
  · exact g.elim
theorem op_repS : OpR X (binaryOp .Mult) (fun x y H Q => ∃ z k, x = .str z ∧ y = .int k ∧ 2 ≤ k ∧ k ≤ 1000 ∧ 0 < z.length ∧ z.length ≤ 1000 ∧ (repS z k.toNat).length ≤ sizeLine ∧ Q (.str (repS z k.toNat)) H) := by
  intro pins s σ H x y v u Q I rx ry ⟨z, k, ex, ey, h1, h2, h3, h4, h5, q⟩
  subst ex ey
  obtain ⟨t, rfl⟩ := rx
  obtain ⟨t', rfl⟩ := ry
  refine PySem.P.mul_str ?_ (fun _ _ => ?_) (fun _ _ => ?_) ?_
  · rw [decide_eq_false (by omega), decide_eq_false (by omega)]; rfl
  · have : (1000 : Int) ≤ (2 ^ 63 - 1) / k := (Int.le_ediv_iff_mul_le (by omega)).mpr (by omega)
    omega
  · unfold Builtin.Str.tooLong
    refine decide_eq_false ?_
    have a1 : z.length * k.toNat ≤ 1000 * 1000 := Nat.mul_le_mul h4 (by omega)
    rw [sizeLine_eq]; omega
  · rw [if_neg (by omega), if_neg (by
      have e1 : (k == 1) = false := beq_eq_false_iff_ne.mpr (by omega)
      have e2 : (z.length == 0) = false := beq_eq_false_iff_ne.mpr (by omega)
      rw [e1, e2]; decide)]
    exact ⟨h5, .str _, H, I.tok _, ⟨_, rfl⟩, q⟩
theorem od_mul : OpD X (binaryOp .Mult) opMul := by
  intro b fit
  refine weakO (OpR.orD op_mul (OpR.orD op_rep op_repS)) fun x y H Q ⟨F, σ', ρ, dx, dy, ok, r1, r2, g⟩ => ?_
  unfold opMul at g
  split at g
  · split at g
    · rename_i hz
      exact .inr (.inr ⟨_, _, rStr r1, rInt r2, hz.1, hz.2.1, hz.2.2.1, hz.2.2.2.1, hz.2.2.2.2, gStr ok g⟩)
    · exact g.elim
  · split at g
    · rename_i hz
      exact .inl ⟨_, _, rInt r1, rInt r2, hz, gInt ok g⟩
    · exact g.elim
  · split at g
    · rename_i hz
      obtain ⟨h1, h2, hz⟩ := hz
      obtain ⟨a, xs, rfl, e1, l1⟩ := RepD.lst ok.sub r1
      exact .inr (.inl ⟨a, _, xs, rfl, rInt r2, e1, h1, h2, by rw [← l1.len]; exact hz, gLst ok g (l1.rep _)⟩)
    · exact g.elim
  · exact g.elim
theorem od_mod : OpD X (binaryOp .Mod) opMod := by
  intro b fit
  refine weakO op_mod fun x y H Q ⟨F, σ', ρ, dx, dy, ok, r1, r2, g⟩ => ?_
  unfold opMod at g
  split at g
  · split at g
    · exact ⟨_, _, rInt r1, rInt r2, by assumption, gInt ok g⟩
    · exact g.elim
  · exact g.elim
theorem od_div : OpD X (binaryOp .FloorDiv) opDiv := by
  intro b fit
  refine weakO op_fdiv fun x y H Q ⟨F, σ', ρ, dx, dy, ok, r1, r2, g⟩ => ?_
  unfold opDiv at g
  split at g
  · split at g
    · exact ⟨_, _, rInt r1, rInt r2, by assumption, gInt ok g⟩
    · exact g.elim
  · exact g.elim
theorem od_pow : OpD X (binaryOp .Pow) opPow := by
  intro b fit
  refine weakO op_pow fun x y H Q ⟨F, σ', ρ, dx, dy, ok, r1, r2, g⟩ => ?_
  unfold opPow at g
  split at g
  · split at g
    · exact ⟨_, _, rInt r1, rInt r2, by assumption, gInt ok g⟩
    · exact g.elim
  · exact g.elim
theorem ud_neg : UnD X (unaryOp .USub) unNeg := by
  intro b fit pins s σ H x v Q I rx ⟨F, σ', ρ, dx, ok, r1, g⟩
  unfold unNeg at g
  split at g
  · exact un_neg pins s σ H x v Q I rx ⟨_, rInt r1, gInt ok g⟩
  · exact g.elim
theorem od_lt : OpD X (compareOp .Lt) opLt := by
  intro b fit
  refine weakO (OpR.orD op_lt op_lt_str) fun x y H Q ⟨F, σ', ρ, dx, dy, ok, r1, r2, g⟩ => ?_
  unfold opLt at g
  split at g
  · exact .inl ⟨_, _, rInt r1, rInt r2, gBl ok g⟩
  · exact .inr ⟨_, _, rStr r1, rStr r2, gBl ok g⟩
  · exact g.elim
theorem od_le : OpD X (compareOp .LtE) opLe := by
  intro b fit
  refine weakO (OpR.orD op_le op_le_str) fun x y H Q ⟨F, σ', ρ, dx, dy, ok, r1, r2, g⟩ => ?_
  unfold opLe at g
  split at g
  · exact .inl ⟨_, _, rInt r1, rInt r2, gBl ok g⟩
  · exact .inr ⟨_, _, rStr r1, rStr r2, gBl ok g⟩
  · exact g.elim
theorem od_gt : OpD X (compareOp .Gt) opGt := by
  intro b fit
  refine weakO (OpR.orD op_gt op_gt_str) fun x y H Q ⟨F, σ', ρ, dx, dy, ok, r1, r2, g⟩ => ?_
  unfold opGt at g
  split at g
  · exact .inl ⟨_, _, rInt r1, rInt r2, gBl ok g⟩
  · exact .inr ⟨_, _, rStr r1, rStr r2, gBl ok g⟩
  · exact g.elim
theorem od_ge : OpD X (compareOp .GtE) opGe := by
  intro b fit
  refine weakO (OpR.orD op_ge op_ge_str) fun x y H Q ⟨F, σ', ρ, dx, dy, ok, r1, r2, g⟩ => ?_
  unfold opGe at g
  split at g
  · exact .inl ⟨_, _, rInt r1, rInt r2, gBl ok g⟩
  · exact .inr ⟨_, _, rStr r1, rStr r2, gBl ok g⟩
  · exact g.elim
theorem isNon_rep {b : Bs} {F H : Hp} {d : D} {v : V} (r : Rd1 b F H d v) : decide (v = V.non) = isNon d := by
  rcases r with r | ⟨a, rfl, oa⟩
  · cases d <;> unfold Rep at r <;> first
      | (subst r; rfl)
      | (obtain ⟨a, _, _, _, rfl, _⟩ := r; rfl)
      | (obtain ⟨a, _, rfl, _⟩ := r; rfl)
      | (obtain ⟨a, rfl, _⟩ := r; rfl)
  · cases d <;> first
      | rfl
      | exact oa.elim
theorem od_is : OpD X (compareOp .Is) opIs := by
  intro b fit
  refine weakO op_isN fun x y H Q ⟨F, σ', ρ, dx, dy, ok, r1, r2, g⟩ => ?_
  unfold opIs at g
  split at g
  · rename_i hz
    have q := isNon_rep r2
    rw [hz] at q
    refine ⟨of_decide_eq_true q, ?_⟩
    rw [isNon_rep r1]
    exact gBl ok g
  · exact g.elim
theorem od_isnot : OpD X (compareOp .IsNot) opIsNot := by
  intro b fit
  refine weakO op_notN fun x y H Q ⟨F, σ', ρ, dx, dy, ok, r1, r2, g⟩ => ?_
  unfold opIsNot at g
  split at g
  · rename_i hz
    have q := isNon_rep r2
    rw [hz] at q
    refine ⟨of_decide_eq_true q, ?_⟩
    rw [isNon_rep r1]
    exact gBl ok g
  · exact g.elim
end
end DL

namespace DL
open PySem PySem.Spec L2

/-! ### in, not in -/
section
variable {K : PySem.W.Frag} {mg : Str → Option Value} {F H : Hp} {b : Bs} {ρ : DL.Env} {σ : St}
theorem keyOf_rd {d : D} {y : V} {k : Key} (r : RepD K mg F H d y) (h : keyOf d = some k) : y = kV k := by
  cases d with
  | int i => cases h; exact (RepD.flat (d := .int i) rfl r).1
  | str i => cases h; exact (RepD.flat (d := .str i) rfl r).1
  | _ => cases h
theorem dkey_iff {d : D} {k : Key} : DKey d k ↔ keyOf d = some k := by
  cases d <;> cases k <;> simp [DKey, keyOf, eq_comm]
def ValOk (K : PySem.W.Frag) (mg : Str → Option Value) (F : Hp) : Option D → Option V → Prop
  | some d, o => ∃ v, o = some v ∧ Rep K mg F d v
  | none, o => o = none
theorem RepK.val : ∀ {kvs : List (D × D)} {hk : List (Key × V)} (k : Key), RepK K mg F kvs hk → ValOk K mg F (getK kvs k) (valV hk k)
  | [], _, k, r => by unfold RepK at r; subst r; rfl
  | (c, d) :: kvs, _, k, r => by
    unfold RepK at r
    obtain ⟨kk, v, s, rfl, hk, rv, rr⟩ := r
    have ek := dkey_iff.mp hk
    unfold getK
    rw [ek]
    by_cases h : kk = k
    · subst h
      rw [if_pos rfl]
      exact ⟨v, valV_pos rfl, rv⟩
    · rw [if_neg (fun q => h (Option.some.inj q))]
      have := RepK.val k rr
      rw [valV_neg (by exact h)]
      exact this
theorem RepD.dct {kvs : List (D × D)} {v : V} (sb : Sub F H) (r : RepD K mg F H (.dct kvs) v) : ∃ a hk, v = .ref a ∧ Rd H a (.dK hk) ∧ RepK K mg F kvs hk := by
  rcases r with r | ⟨a, rfl, hk, e, rk⟩
  · unfold Rep at r
    obtain ⟨a, hk, rfl, e, rk⟩ := r
    exact ⟨a, hk, rfl, sb.dK e, rk⟩
  · exact ⟨a, hk, rfl, .inl e, rk⟩
theorem RepD.scr {ns : List Int} {v : V} (sb : Sub F H) (r : RepD K mg F H (.scr ns) v) : ∃ a, v = .ref a ∧ SqL K H a (ns.map V.int) := by
  rcases r with r | ⟨a, rfl, oa⟩
  · unfold Rep at r
    obtain ⟨a, rfl, e⟩ := r
    exact ⟨a, rfl, sb.sqL e⟩
  · exact oa.elim
theorem RepK.len : ∀ {kvs : List (D × D)} {hk : List (Key × V)}, RepK K mg F kvs hk → kvs.length = hk.length
  | [], _, r => by unfold RepK at r; subst r; rfl
  | (c, d) :: kvs, _, r => by
    unfold RepK at r
    obtain ⟨kk, v, s, rfl, hk, rv, rr⟩ := r
    rw [List.length_cons, List.length_cons, RepK.len rr]
end
theorem anyEq_get {x : D} : ∀ {ds : List D} {b : Bool}, anyEq x ds = some b → (∀ (j : Nat) (d : D), ds[j]? = some d → ∃ c, eqD d 38 x = some c) ∧ (b = true ↔ ∃ (j : Nat) (d : D), ds[j]? = some d ∧ eqD d 38 x = some true)
  | [], b, h => by
    cases h
    exact ⟨fun j d e => (by cases e), ⟨fun e => (by cases e), fun ⟨j, d, e, _⟩ => (by cases e)⟩⟩
  | y :: ds, b, h => by
    unfold anyEq at h
    cases e : eqD y 38 x with
    | none => rw [e] at h; cases h
    | some c =>
      rw [e] at h
      cases c with
      | true =>
        dsimp only at h
        cases e2 : anyEq x ds with
        | none => rw [e2] at h; cases h
        | some c2 =>
          rw [e2] at h
          cases h
          refine ⟨fun j d ej => ?_, ⟨fun _ => ⟨0, y, rfl, e⟩, fun _ => rfl⟩⟩
          cases j with
          | zero => cases ej; exact ⟨_, e⟩
          | succ j => exact (anyEq_get e2).1 j d ej
      | false =>
        dsimp only at h
        obtain ⟨h1, h2⟩ := anyEq_get h
        refine ⟨fun j d ej => ?_, ⟨fun q => ?_, fun ⟨j, d, ej, q⟩ => ?_⟩⟩
        · cases j with
          | zero => cases ej; exact ⟨_, e⟩
          | succ j => exact h1 j d ej
        · obtain ⟨j, d, ej, q⟩ := h2.mp q
          exact ⟨j + 1, d, ej, q⟩
        · cases j with
          | zero => cases ej; rw [e] at q; cases q
          | succ j => exact h2.mpr ⟨j, d, ej, q⟩
open Classical in
/-- which item is equal, by the items' values -/
noncomputable def hitOf (its : List Value) (ds : List D) (x : D) (u : Value) : Bool := decide (∃ (j : Nat) (d : D), its[j]? = some u ∧ ds[j]? = some d ∧ eqD d 38 x = some true)
open Classical in
theorem hitOf_iff {its : List Value} {ds : List D} {x : D} {u : Value} : hitOf its ds x u = true ↔ ∃ (j : Nat) (d : D), its[j]? = some u ∧ ds[j]? = some d ∧ eqD d 38 x = some true := by
  unfold hitOf
  exact decide_eq_true_iff
section
variable {X : Cx} {mg : Str → Option Value} {F H : Hp} {pins : List (Addr × Obj)} {σ : St} {s : Shared}
theorem item_at' {K : PySem.W.Frag} {ds : List D} {xs : List V} {its : List Value} (l : RepL K mg F ds xs) (r : Vals xs its) {j : Nat} {u : Value} (h : its[j]? = some u) : ∃ d v, ds[j]? = some d ∧ Rep K mg F d v ∧ RelV v u := by
  have hj : j < its.length := (List.getElem?_eq_some_iff.mp h).1
  obtain ⟨d, v, e1, p1, w1⟩ := item_at l r hj
  have : its[j] = u := (List.getElem?_eq_some_iff.mp h).2
  rw [this] at w1
  exact ⟨d, v, e1, p1, w1⟩
theorem hit_any {ds : List D} {its : List Value} {x : D} {b : Bool} (hl : ds.length = its.length) (h : anyEq x ds = some b) : its.any (hitOf its ds x) = b := by
  obtain ⟨h1, h2⟩ := anyEq_get h
  cases b with
  | true =>
    obtain ⟨j, d, e, q⟩ := h2.mp rfl
    have hj : j < its.length := by rw [← hl]; exact (List.getElem?_eq_some_iff.mp e).1
    exact List.any_eq_true.mpr ⟨its[j], List.getElem_mem hj, hitOf_iff.mpr ⟨j, d, List.getElem?_eq_getElem hj, e, q⟩⟩
  | false =>
    refine Bool.eq_false_iff.mpr fun q => ?_
    obtain ⟨u, _, hu⟩ := List.any_eq_true.mp q
    obtain ⟨j, d, _, e, q⟩ := hitOf_iff.mp hu
    have := h2.mpr ⟨j, d, e, q⟩
    cases this
theorem hit_at (I : Inv X pins σ H s) (sb : Sub F H) {ds : List D} {xs : List V} {its : List Value} (l : RepL X.K mg F ds xs) (r : Vals xs its) {x : D} {v : V} {vv : Value} {b : Bool} (rx : RepD X.K mg F H x v) (q : RelV v vv) (h : anyEq x ds = some b) {A : Around} (hu : A.units + 64 < cLine) :
    ∀ u ∈ its, SeqAt.EqAt A.in1 s u vv (hitOf its ds x u) := by
  intro u hm
  have hu' : A.in1.units + 38 + 1 < cLine := by show A.units + 1 + 38 + 1 < cLine; omega
  by_cases hh : ∃ (j : Nat) (d : D), its[j]? = some u ∧ ds[j]? = some d ∧ eqD d 38 x = some true
  · have e : hitOf its ds x u = true := hitOf_iff.mpr hh
    rw [e]
    obtain ⟨j, d, e1, e2, e3⟩ := hh
    obtain ⟨d', v', e4, p, w⟩ := item_at' l r e1
    rw [e2] at e4; cases e4
    exact eqD_at I sb 38 (.inl p) rx w q e3 _ hu'
  · have e : hitOf its ds x u = false := Bool.eq_false_iff.mpr fun q => hh (hitOf_iff.mp q)
    rw [e]
    obtain ⟨j, hj, ej⟩ := List.mem_iff_getElem.mp hm
    have e1 : its[j]? = some u := by rw [List.getElem?_eq_getElem hj, ej]
    obtain ⟨d', v', e4, p, w⟩ := item_at' l r e1
    obtain ⟨c, ec⟩ := (anyEq_get h).1 j d' e4
    cases c with
    | true => exact absurd ⟨j, d', e1, e4, ec⟩ hh
    | false => exact eqD_at I sb 38 (.inl p) rx w q ec _ hu'
end
section
variable {X : Cx}
theorem od_in (hu : X.A.units + 64 < cLine) : OpD X (compareOp .In) opIn := by
  intro b fit pins s σ H x y v u Q I rx ry h
  obtain ⟨F, σ', ρ, dx, dy, ok, r1, r2, g⟩ := h
  unfold opIn at g
  cases e : inD dx dy with
  | none => rw [e] at g; exact g.elim
  | some k =>
    rw [e] at g
    have q : Q (.bl k) H := gBl ok g
    have r1 : RepD b.K b.mg F H dx x := r1
    have r2 : RepD b.K b.mg F H dy y := r2
    have r1' := r1
    rw [fit.K] at r1'
    cases dy with
    | lst ds =>
      obtain ⟨a, xs, rfl, e1, l1⟩ := RepD.lst ok.sub r2
      cases ry
      rw [fit.K] at l1
      obtain ⟨its, t1, hl⟩ := heapL I e1
      have e : anyEq dx ds = some k := by cases dx <;> exact e
      refine SeqAt.in_listAt (hitOf its ds dx) hl (fun w hw => hit_at I ok.sub l1 t1 r1' rx e hu w (by simpa using hw)) ⟨.bl k, H, I, ?_, q⟩
      rw [show its.toArray.any (hitOf its ds dx) = its.any (hitOf its ds dx) by simp, hit_any (l1.len.trans t1.length) e]
      rfl
    | tup ds =>
      obtain ⟨a, xs, rfl, e1, l1⟩ := RepD.tup ok.sub r2
      cases ry
      rw [fit.K] at l1 e1
      obtain ⟨its, t1, hl⟩ := heapT I e1
      have e : anyEq dx ds = some k := by cases dx <;> exact e
      refine SeqAt.in_tupleAt (hitOf its ds dx) hl (fun w hw => hit_at I ok.sub l1 t1 r1' rx e hu w (by simpa using hw)) ⟨.bl k, H, I, ?_, q⟩
      rw [show its.toArray.any (hitOf its ds dx) = its.any (hitOf its ds dx) by simp, hit_any (l1.len.trans t1.length) e]
      rfl
    | dct kvs =>
      obtain ⟨a, hk, rfl, e1, l1⟩ := RepD.dct ok.sub r2
      cases ry
      have e : (keyOf dx).map (fun k => (getK kvs k).isSome) = some k := by cases dx <;> exact e
      cases ek : keyOf dx with
      | none => rw [ek] at e; cases e
      | some kk =>
        rw [ek] at e
        cases e
        have ex := keyOf_rd r1 ek
        subst ex
        have hv := RepK.val kk l1
        refine d_in (o := valV hk kk) (by omega) I (.inl ⟨hk, kk, e1, rfl, rfl⟩) rx fun s' I' => ⟨.bl _, H, I', rfl, ?_⟩
        dsimp only at q
        cases eg : getK kvs kk with
        | none => rw [eg] at hv q; rw [hv]; exact q
        | some d =>
          rw [eg] at hv q
          obtain ⟨v, ev, _⟩ := hv
          rw [ev]; exact q
    | str t =>
      cases dx with
      | str z =>
        cases e
        exact op_in_str pins s σ H x y v u Q I rx ry ⟨_, _, rStr r1, rStr r2, q⟩
      | _ => cases e
    | _ => cases dx <;> cases e
theorem od_notin (hu : X.A.units + 64 < cLine) : OpD X (compareOp .NotIn) opNotIn := by
  intro b fit pins s σ H x y v u Q I rx ry h
  obtain ⟨F, σ', ρ, dx, dy, ok, r1, r2, g⟩ := h
  unfold opNotIn at g
  cases e : inD dx dy with
  | none => rw [e] at g; exact g.elim
  | some k =>
    rw [e] at g
    have q : Q (.bl (!k)) H := gBl ok g
    have r1 : RepD b.K b.mg F H dx x := r1
    have r2 : RepD b.K b.mg F H dy y := r2
    have r1' := r1
    rw [fit.K] at r1'
    cases dy with
    | lst ds =>
      obtain ⟨a, xs, rfl, e1, l1⟩ := RepD.lst ok.sub r2
      cases ry
      rw [fit.K] at l1
      obtain ⟨its, t1, hl⟩ := heapL I e1
      have e : anyEq dx ds = some k := by cases dx <;> exact e
      refine SeqAt.notIn_listAt (hitOf its ds dx) hl (fun w hw => hit_at I ok.sub l1 t1 r1' rx e hu w (by simpa using hw)) ⟨.bl (!k), H, I, ?_, q⟩
      rw [show its.toArray.any (hitOf its ds dx) = its.any (hitOf its ds dx) by simp, hit_any (l1.len.trans t1.length) e]
      rfl
    | tup ds =>
      obtain ⟨a, xs, rfl, e1, l1⟩ := RepD.tup ok.sub r2
      cases ry
      rw [fit.K] at l1 e1
      obtain ⟨its, t1, hl⟩ := heapT I e1
      have e : anyEq dx ds = some k := by cases dx <;> exact e
      refine SeqAt.notIn_tupleAt (hitOf its ds dx) hl (fun w hw => hit_at I ok.sub l1 t1 r1' rx e hu w (by simpa using hw)) ⟨.bl (!k), H, I, ?_, q⟩
      rw [show its.toArray.any (hitOf its ds dx) = its.any (hitOf its ds dx) by simp, hit_any (l1.len.trans t1.length) e]
      rfl
    | dct kvs =>
      obtain ⟨a, hk, rfl, e1, l1⟩ := RepD.dct ok.sub r2
      cases ry
      have e : (keyOf dx).map (fun k => (getK kvs k).isSome) = some k := by cases dx <;> exact e
      cases ek : keyOf dx with
      | none => rw [ek] at e; cases e
      | some kk =>
        rw [ek] at e
        cases e
        have ex := keyOf_rd r1 ek
        subst ex
        have hv := RepK.val kk l1
        refine d_notIn (o := valV hk kk) (by omega) I (.inl ⟨hk, kk, e1, rfl, rfl⟩) rx fun s' I' => ⟨.bl _, H, I', rfl, ?_⟩
        dsimp only at q
        cases eg : getK kvs kk with
        | none => rw [eg] at hv q; rw [hv]; exact q
        | some d =>
          rw [eg] at hv q
          obtain ⟨v, ev, _⟩ := hv
          rw [ev]; exact q
    | str t =>
      cases dx with
      | str z =>
        cases e
        exact op_notin_str pins s σ H x y v u Q I rx ry ⟨_, _, rStr r1, rStr r2, q⟩
      | _ => cases e
    | _ => cases dx <;> cases e

/-! ### subscripts -/
abbrev IxD (X : Cx) (f : D → D → Option AV) : Prop := ∀ b, Fit X b → IxR X (rD2 b f)
theorem atI_map {α β : Type} (g : α → β) (l : List α) (i : Int) : atI (l.map g) i = (atI l i).map g := by
  unfold atI
  rw [List.length_map]
  cases ixN l.length i with
  | none => rfl
  | some j => simp
theorem RepL.atI {K : PySem.W.Frag} {mg : Str → Option Value} {F : Hp} {ds : List D} {vs : List V} (r : RepL K mg F ds vs) {i : Int} {d : D} (h : L2.atI ds i = some d) : ∃ v, L2.atI vs i = some v ∧ Rep K mg F d v := by
  unfold L2.atI at h ⊢
  rw [← r.len]
  cases e : ixN ds.length i with
  | none => rw [e] at h; cases h
  | some j =>
    rw [e] at h
    exact r.get h
theorem ix_dict (hu : X.A.units + 1 < cLine) : IxR X (fun x y H Q => ∃ a v, x = .ref a ∧ DGet H a y (some v) ∧ Q v H) := by
  intro value slice pins s σ H x y v u Q I rx ry h hs
  obtain ⟨a, w, rfl, g, q⟩ := h
  cases rx
  exact PyProof.Rows.tail_any (dict_typeIs I g) PySem.F.slot_dict_getitem.lookup (d_getItem hu I g ry fun w' s3 I3 rw' => ⟨w, H, I3, rw', q⟩) hs
theorem weakIx {r r' : R2} (h : IxR X r) (i : ∀ x y H Q, r' x y H Q → r x y H Q) : IxR X r' := fun value slice pins s σ H x y v u Q I rx ry q => h value slice pins s σ H x y v u Q I rx ry (i _ _ _ _ q)
theorem id_ix (hu : X.A.units + 64 < cLine) : IxD X ixD := by
  intro b fit
  refine weakIx (IxR.or ix_seq (ix_dict (by omega))) fun x y H Q ⟨F, σ', ρ, dx, dy, ok, r1, r2, g⟩ => ?_
  unfold ixD at g
  split at g
  · rename_i l i
    obtain ⟨a, xs, rfl, e1, l1⟩ := RepD.lst ok.sub r1
    cases e : L2.atI l i with
    | none => rw [e] at g; exact g.elim
    | some d =>
      rw [e] at g
      obtain ⟨v, ev, rv⟩ := l1.atI e
      exact .inl (.inl ⟨a, xs, i, v, rfl, rInt r2, SqL.of e1, ev, gFz ok g rv⟩)
  · rename_i l i
    obtain ⟨a, xs, rfl, e1, l1⟩ := RepD.tup ok.sub r1
    rw [fit.K] at e1
    cases e : L2.atI l i with
    | none => rw [e] at g; exact g.elim
    | some d =>
      rw [e] at g
      obtain ⟨v, ev, rv⟩ := l1.atI e
      exact .inl (.inr (.inl ⟨a, xs, i, v, rfl, rInt r2, e1, ev, gFz ok g rv⟩))
  · rename_i l i
    obtain ⟨a, rfl, e1⟩ := RepD.scr ok.sub r1
    rw [fit.K] at e1
    cases e : L2.atI l i with
    | none => rw [e] at g; exact g.elim
    | some d =>
      rw [e] at g
      exact .inl (.inl ⟨a, _, i, .int d, rfl, rInt r2, e1, by rw [atI_map, e]; rfl, gInt ok g⟩)
  · rename_i z i
    split at g
    · rename_i hz
      cases e : L2.atI z.cps.toList i with
      | none => rw [e] at g; exact g.elim
      | some c =>
        rw [e] at g
        exact .inl (.inr (.inr ⟨z, i, c, rStr r1, rInt r2, hz, e, gStr ok g⟩))
    · exact g.elim
  · rename_i kvs
    obtain ⟨a, hk, rfl, e1, l1⟩ := RepD.dct ok.sub r1
    cases ek : keyOf dy with
    | none => rw [ek] at g; exact g.elim
    | some kk =>
      rw [ek] at g
      have ex := keyOf_rd r2 ek
      subst ex
      have hv := RepK.val kk l1
      change Gives b ρ σ' F ((getK kvs kk).map .fz) Q at g
      cases eg : getK kvs kk with
      | none => rw [eg] at g; exact g.elim
      | some d =>
        rw [eg] at hv g
        obtain ⟨v, ev, rv⟩ := hv
        exact .inr ⟨a, v, rfl, .inl ⟨hk, kk, e1, rfl, ev.symm⟩, gFz ok g rv⟩
  · exact g.elim
variable {b : Bs} {W : WX} {pos : Pos}
theorem de_sub {a c : Expr} {φ ψ : M AV} (fit : Fit X b) (hu : X.A.units + 64 < cLine) (ha : PE X a (tE b W φ)) (hc : PE X c (tE b W ψ)) (hs : PlainIx c := by exact fun _ _ => rfl) : PE X (.Subscript a c pos) (tE b W (mOp ixD φ ψ)) := by
  refine weakE (pe_ix (id_ix hu b fit) ha hc hs) fun σ H Q ⟨F, ρ, k, h⟩ => ?_
  exact run2 k h

/-! ### slices -/
def slD (d : D) (lo hi : Option Int) : Option AV := match d with
  | .lst l => some (.ow (.lst ((l.drop (HT.sIx l.length 0 lo)).take (HT.sIx l.length l.length hi - HT.sIx l.length 0 lo))))
  | .tup l => some (.fz (.tup ((l.drop (HT.sIx l.length 0 lo)).take (HT.sIx l.length l.length hi - HT.sIx l.length 0 lo))))
  | .str z => if z.length ≤ sizeLine then some (.fz (.str (cutS z lo hi))) else none
  | _ => none
def edgeD : D → M (Option Int)
  | .int i => M.ret (some i)
  | _ => M.stuck
/-- an edge of a slice -/
def mEdge : Option (M AV) → M (Option Int)
  | none => M.ret none
  | some φ => φ.bnd fun a => (rd a).bnd edgeD
def mSl (φ : M AV) (lo hi : Option (M AV)) : M AV := φ.bnd fun a => (frz a).bnd fun d => (mEdge lo).bnd fun l => (mEdge hi).bnd fun u => lift (slD d l u)
theorem RepL.drop {K : PySem.W.Frag} {mg : Str → Option Value} {F : Hp} : ∀ (n : Nat) {ds : List D} {vs : List V}, RepL K mg F ds vs → RepL K mg F (ds.drop n) (vs.drop n)
  | 0, _, _, r => r
  | n + 1, [], _, r => by unfold RepL at r; subst r; show RepL K mg F [] []; unfold RepL; rfl
  | n + 1, d :: ds, _, r => by
    unfold RepL at r
    obtain ⟨v, s, rfl, _, l⟩ := r
    exact RepL.drop n l
theorem RepL.take {K : PySem.W.Frag} {mg : Str → Option Value} {F : Hp} : ∀ (n : Nat) {ds : List D} {vs : List V}, RepL K mg F ds vs → RepL K mg F (ds.take n) (vs.take n)
  | 0, ds, vs, r => by show RepL K mg F [] []; unfold RepL; rfl
  | n + 1, [], _, r => by unfold RepL at r; subst r; show RepL K mg F [] []; unfold RepL; rfl
  | n + 1, d :: ds, _, r => by
    unfold RepL at r
    obtain ⟨v, s, rfl, q, l⟩ := r
    show RepL K mg F (d :: ds.take n) (v :: s.take n)
    unfold RepL
    exact ⟨v, s.take n, rfl, q, RepL.take n l⟩
theorem rd_ints {F : Hp} {d : D} {σ : St} {ρ : DL.Env} {Q : Option Int → DL.Env → Hp → Hp → Prop} (h : After b W σ F (edgeD d ρ) Q) : ∃ i, d = .int i := by
  cases d with
  | int i => exact ⟨i, rfl⟩
  | _ => exact h.elim
/-- an edge's reading -/
def tO (b : Bs) (W : WX) (φ : M (Option Int)) : TO := fun σ H Q => ∃ F ρ, Ok b ρ F H σ ∧ After b W σ F (φ ρ) fun o ρ' F' H' => Q o H'
theorem do_none : PO X none (tO b W (mEdge none)) := ⟨fun pins s σ H Q I ⟨F, ρ, k, h⟩ => po_none.run pins s σ H Q I (h F H k (Same.refl _))⟩
theorem do_some {e : Expr} {φ : M AV} (he : PE X e (tE b W φ)) : PO X (some e) (tO b W (mEdge (some φ))) := ⟨fun pins s σ H Q I ⟨F, ρ, k, h⟩ => (po_some he).run pins s σ H Q I (by
  show tE b W φ σ H fun x H1 => ∃ i, x = .int i ∧ Q (some i) H1
  refine runE k h fun av x ρ1 F1 H1 k1 s1 r1 h1 => ?_
  obtain ⟨d, q1, h2⟩ := h1.read k1 r1
  obtain ⟨i, rfl⟩ := rd_ints h2
  exact ⟨i, rInt q1, h2 F1 H1 k1 (Same.refl _)⟩)⟩
theorem runO {α : Type} {φ : M (Option Int)} {f : Option Int → M α} {σ : St} {H F : Hp} {ρ : DL.Env} {Q : α → DL.Env → Hp → Hp → Prop} {R : Option Int → Hp → Prop} (k : Ok b ρ F H σ) (h : After b W σ F (φ.bnd f ρ) Q)
    (i : ∀ c ρ1 F1 H1, Ok b ρ1 F1 H1 σ → Same F F1 → After b W σ F1 (f c ρ1) Q → R c H1) : tO b W φ σ H R :=
  ⟨F, ρ, k, h.bnd.imp fun av ρ' F' H' k' s q => i av ρ' F' H' k' s q.2⟩
theorem de_slice {e : Expr} {lo hi : Option Expr} {p2 : Pos} {φ : M AV} {l u : Option (M AV)} (fit : Fit X b) (he : PE X e (tE b W φ)) (hl : PO X lo (tO b W (mEdge l))) (hh : PO X hi (tO b W (mEdge u))) :
    PE X (.Subscript e (.Slice lo hi none p2) pos) (tE b W (mSl φ l u)) := by
  refine weakE (pe_slice (SlR.or sl_list (SlR.or sl_tupA sl_str)) he hl hh) fun σ H Q ⟨F, ρ, k, h⟩ => ?_
  refine runE k h fun av x ρ1 F1 H1 k1 s1 r1 h1 => ?_
  obtain ⟨d, ρ2, F2, k2, s2, q2, h2⟩ := After.froze k1 r1 h1
  refine runO k2 h2 fun lo ρ3 F3 H3 k3 s3 h3 => ?_
  refine runO k3 h3 fun hi ρ4 F4 H4 k4 s4 h4 => ?_
  have q4 := q2.mono (s3.trans s4)
  have g := h4.gives
  unfold slD at g
  split at g
  · unfold Rep at q4
    obtain ⟨a, xs, rfl, e1, l1⟩ := q4
    refine .inl ⟨a, xs, rfl, SqL.of (k4.sub.lst e1), ?_⟩
    have := gLst k4 g (vs := cutV xs lo hi) (by unfold cutV; rw [← l1.len]; exact (l1.drop _).take _)
    exact this
  · rename_i l
    have q4' := q4
    unfold Rep at q4
    obtain ⟨a, xs, rfl, e1, l1⟩ := q4
    rw [fit.K] at e1
    refine .inr (.inl ⟨a, xs, rfl, k4.sub.sqT e1, fun hw => ?_, fun _ => ?_⟩)
    · rw [← l1.len] at hw
      rw [hw.1, hw.2] at g
      have : (l.drop 0).take (l.length - 0) = l := by simp
      rw [this] at g
      exact gFz k4 g q4'
    · exact gTup k4 g (vs := cutV xs lo hi) (by unfold cutV; rw [← l1.len]; exact (l1.drop _).take _)
  · split at g
    · rename_i hz
      unfold Rep at q4
      subst q4
      exact .inr (.inr ⟨_, rfl, hz, gStr k4 g⟩)
    · exact g.elim
  · exact g.elim
end
end DL

namespace DL
open PySem PySem.Spec L2

/-! ### built-ins -/
def fLen : List D → Option AV
  | [.str z] => if z.length ≤ sizeLine then some (.fz (.int z.length)) else none
  | [.lst l] => some (.fz (.int l.length))
  | [.tup l] => some (.fz (.int l.length))
  | [.scr l] => some (.fz (.int l.length))
  | [.dct l] => some (.fz (.int l.length))
  | _ => none
def fAbs : List D → Option AV
  | [.int i] => some (.fz (.int (if i < 0 then -i else i)))
  | _ => none
def fMax2 : List D → Option AV
  | [.int i, .int j] => some (.fz (.int (if j > i then j else i)))
  | _ => none
def fMin2 : List D → Option AV
  | [.int i, .int j] => some (.fz (.int (if j < i then j else i)))
  | _ => none
def fInt : List D → Option AV
  | [.int i] => some (.fz (.int i))
  | [.bl k] => some (.fz (.int (if k then 1 else 0)))
  | [.str a] => if a.length ≤ 640 then (PySem.intText? a).map fun n => .fz (.int n) else none
  | _ => none
def fStr : List D → Option AV
  | [.int i] => if i.natAbs.log2 < 1920 then some (.fz (.str (toString i))) else none
  | [.str a] => some (.fz (.str a))
  | _ => none
def blsOf : List D → Option (List Bool)
  | [] => some []
  | .bl b :: r => (blsOf r).map fun l => b :: l
  | _ => none
def strsOf : List D → Option (List Str)
  | [] => some []
  | .str b :: r => (strsOf r).map fun l => b :: l
  | _ => none
def intsOf : List D → Option (List Int)
  | [] => some []
  | .int b :: r => (intsOf r).map fun l => b :: l
  | _ => none
def fAll : List D → Option AV
  | [.lst l] => (blsOf l).map fun bs => .fz (.bl (bs.all id))
  | _ => none
def fAny : List D → Option AV
  | [.lst l] => (blsOf l).map fun bs => .fz (.bl (bs.any id))
  | _ => none
def fTuple : List D → Option AV
  | [.lst l] => some (.fz (.tup l))
  | [.tup l] => some (.fz (.tup l))
  | _ => none
def fList : List D → Option AV
  | [.lst l] => some (.ow (.lst l))
  | [.tup l] => some (.ow (.lst l))
  | [.dct l] => some (.ow (.lst (l.map (·.1))))
  | _ => none
def pairsD : List D → Option (List (D × D))
  | [] => some []
  | .tup [k, v] :: r => if (keyOf k).isSome then (pairsD r).map fun l => (k, v) :: l else none
  | _ => none
def mergeD (kvs more : List (D × D)) : List (D × D) := more.foldl (fun acc p => putD acc p.1 p.2) kvs
def fDict : List D → Option AV
  | [.lst l] => (pairsD l).map fun ps => .ow (.dct (mergeD [] ps))
  | [.dct l] => some (.ow (.dct l))
  | _ => none
def insS (x : Str) : List Str → List Str
  | [] => [x]
  | y :: r => if ltS y x then y :: insS x r else x :: y :: r
def sortS : List Str → List Str
  | [] => []
  | x :: r => insS x (sortS r)
def insI (x : Int) : List Int → List Int
  | [] => [x]
  | y :: r => if y < x then y :: insI x r else x :: y :: r
def sortI : List Int → List Int
  | [] => []
  | x :: r => insI x (sortI r)
def sortFlat (l : List D) : Option (List D) := match strsOf l with
  | some ss => if ss.length < 64 then some ((sortS ss).map .str) else none
  | none => match intsOf l with
    | some is => if is.length < 64 then some ((sortI is).map .int) else none
    | none => none
def fSorted : List D → Option AV
  | [.lst l] => (sortFlat l).map fun l => .ow (.lst l)
  | [.dct l] => (sortFlat (l.map (·.1))).map fun l => .ow (.lst l)
  | _ => none
/-- of one list of ints, not empty -/
def maxI : Int → List Int → Int
  | a, [] => a
  | a, x :: r => maxI (if a < x then x else a) r
def minI : Int → List Int → Int
  | a, [] => a
  | a, x :: r => minI (if x < a then x else a) r
def fMaxL : List D → Option AV
  | [.lst l] => match intsOf l with
    | some (x :: r) => some (.fz (.int (maxI x r)))
    | _ => none
  | _ => none
def fMinL : List D → Option AV
  | [.lst l] => match intsOf l with
    | some (x :: r) => some (.fz (.int (minI x r)))
    | _ => none
  | _ => none
def fMax (l : List D) : Option AV := match l with
  | [_] => fMaxL l
  | _ => fMax2 l
def fMin (l : List D) : Option AV := match l with
  | [_] => fMinL l
  | _ => fMin2 l

/-! sorting is unique -/
theorem ltS_trans {a b c : Str} (h1 : ltS b a = false) (h2 : ltS c b = false) : ltS c a = false := by
  unfold ltS at *
  have h1 := of_decide_eq_false h1
  have h2 := of_decide_eq_false h2
  refine decide_eq_false fun h => ?_
  have l1 : a.cps.toList ≤ b.cps.toList := List.not_lt.mp h1
  have l2 : b.cps.toList ≤ c.cps.toList := List.not_lt.mp h2
  exact (List.not_lt.mpr (List.le_trans l1 l2)) h
theorem ltS_anti {a b : Str} (h1 : ltS b a = false) (h2 : ltS a b = false) : a = b := by
  unfold ltS at *
  have l1 : a.cps.toList ≤ b.cps.toList := List.not_lt.mp (of_decide_eq_false h1)
  have l2 : b.cps.toList ≤ a.cps.toList := List.not_lt.mp (of_decide_eq_false h2)
  have e := List.le_antisymm l1 l2
  obtain ⟨⟨x⟩⟩ := a
  obtain ⟨⟨y⟩⟩ := b
  exact congrArg (fun l => (⟨⟨l⟩⟩ : Str)) e
theorem ltS_asym {a b : Str} (h : ltS a b = true) : ltS b a = false := by
  unfold ltS at *
  exact decide_eq_false (List.not_lt.mpr (List.le_of_lt (of_decide_eq_true h)))
theorem insS_perm (x : Str) : ∀ l : List Str, (insS x l).Perm (x :: l)
  | [] => List.Perm.refl _
  | y :: r => by
    unfold insS
    split
    · exact ((insS_perm x r).cons y).trans (List.Perm.swap x y r)
    · exact List.Perm.refl _
theorem sortS_perm : ∀ l : List Str, (sortS l).Perm l
  | [] => List.Perm.refl _
  | x :: r => (insS_perm x _).trans ((sortS_perm r).cons x)
abbrev leS (a b : Str) : Prop := ltS b a = false
theorem insS_sorted (x : Str) : ∀ {l : List Str}, l.Pairwise leS → (insS x l).Pairwise leS
  | [], _ => List.pairwise_singleton _ _
  | y :: r, h => by
    unfold insS
    have h' := List.pairwise_cons.mp h
    split
    · rename_i hyx
      refine List.pairwise_cons.mpr ⟨fun z hz => ?_, insS_sorted x h'.2⟩
      rcases List.mem_cons.mp ((insS_perm x r).mem_iff.mp hz) with rfl | hz
      · exact ltS_asym hyx
      · exact h'.1 z hz
    · rename_i hyx
      have hyx : ltS y x = false := by simpa using hyx
      refine List.pairwise_cons.mpr ⟨fun z hz => ?_, h⟩
      rcases List.mem_cons.mp hz with rfl | hz
      · exact hyx
      · exact ltS_trans hyx (h'.1 z hz)
theorem sortS_sorted : ∀ l : List Str, (sortS l).Pairwise leS
  | [] => List.Pairwise.nil
  | x :: r => insS_sorted x (sortS_sorted r)
theorem rising_pair : ∀ {l : List Str} {x : Str}, PyProof.Rows.risingS x l = true → (x :: l).Pairwise leS
  | [], x, _ => List.pairwise_singleton _ _
  | y :: r, x, h => by
    unfold PyProof.Rows.risingS at h
    rw [Bool.and_eq_true] at h
    have h1 : ltS y x = false := by
      have := h.1
      rw [PyProof.Rows.ltCps_eq] at this
      simpa [ltS] using this
    have ih := rising_pair h.2
    refine List.pairwise_cons.mpr ⟨fun z hz => ?_, ih⟩
    rcases List.mem_cons.mp hz with rfl | hz
    · exact h1
    · exact ltS_trans h1 ((List.pairwise_cons.mp ih).1 z hz)
theorem sortS_uniq {ys xs : List Str} (p : ys.Perm xs) (h : PyProof.Rows.sortedS ys = true) : ys = sortS xs := by
  have hp : ys.Pairwise leS := by
    cases ys with
    | nil => exact List.Pairwise.nil
    | cons y r => exact rising_pair h
  exact List.Perm.eq_of_pairwise (le := leS) (fun a b _ _ h1 h2 => ltS_anti h1 h2) hp (sortS_sorted xs) (p.trans (sortS_perm xs).symm)
theorem insI_perm (x : Int) : ∀ l : List Int, (insI x l).Perm (x :: l)
  | [] => List.Perm.refl _
  | y :: r => by
    unfold insI
    split
    · exact ((insI_perm x r).cons y).trans (List.Perm.swap x y r)
    · exact List.Perm.refl _
theorem sortI_perm : ∀ l : List Int, (sortI l).Perm l
  | [] => List.Perm.refl _
  | x :: r => (insI_perm x _).trans ((sortI_perm r).cons x)
theorem insI_sorted (x : Int) : ∀ {l : List Int}, l.Pairwise (· ≤ ·) → (insI x l).Pairwise (· ≤ ·)
  | [], _ => List.pairwise_singleton _ _
  | y :: r, h => by
    unfold insI
    have h' := List.pairwise_cons.mp h
    split
    · refine List.pairwise_cons.mpr ⟨fun z hz => ?_, insI_sorted x h'.2⟩
      rcases List.mem_cons.mp ((insI_perm x r).mem_iff.mp hz) with rfl | hz
      · omega
      · exact h'.1 z hz
    · refine List.pairwise_cons.mpr ⟨fun z hz => ?_, h⟩
      rcases List.mem_cons.mp hz with rfl | hz
      · omega
      · have := h'.1 z hz; omega
theorem sortI_sorted : ∀ l : List Int, (sortI l).Pairwise (· ≤ ·)
  | [] => List.Pairwise.nil
  | x :: r => insI_sorted x (sortI_sorted r)
theorem sortI_uniq {ys xs : List Int} (p : ys.Perm xs) (h : ys.Pairwise (· ≤ ·)) : ys = sortI xs :=
  List.Perm.eq_of_pairwise (le := (· ≤ ·)) (fun a b _ _ h1 h2 => Int.le_antisymm h1 h2) h (sortI_sorted xs) (p.trans (sortI_perm xs).symm)
theorem maxI_le : ∀ (l : List Int) (a : Int), a ≤ maxI a l ∧ (∀ y ∈ l, y ≤ maxI a l) ∧ (maxI a l = a ∨ maxI a l ∈ l)
  | [], a => ⟨Int.le_refl _, fun y h => (by cases h), .inl rfl⟩
  | x :: r, a => by
    have st : maxI a (x :: r) = maxI (if a < x then x else a) r := rfl
    rw [st]
    by_cases h : a < x
    · rw [if_pos h]
      obtain ⟨h1, h2, h3⟩ := maxI_le r x
      refine ⟨by omega, fun y hy => ?_, .inr ?_⟩
      · rcases List.mem_cons.mp hy with rfl | hy
        · exact h1
        · exact h2 y hy
      · rcases h3 with h3 | h3
        · rw [h3]; exact List.mem_cons_self
        · exact List.mem_cons_of_mem _ h3
    · rw [if_neg h]
      obtain ⟨h1, h2, h3⟩ := maxI_le r a
      refine ⟨h1, fun y hy => ?_, ?_⟩
      · rcases List.mem_cons.mp hy with rfl | hy
        · omega
        · exact h2 y hy
      · rcases h3 with h3 | h3
        · exact .inl h3
        · exact .inr (List.mem_cons_of_mem _ h3)
theorem minI_le : ∀ (l : List Int) (a : Int), minI a l ≤ a ∧ (∀ y ∈ l, minI a l ≤ y) ∧ (minI a l = a ∨ minI a l ∈ l)
  | [], a => ⟨Int.le_refl _, fun y h => (by cases h), .inl rfl⟩
  | x :: r, a => by
    have st : minI a (x :: r) = minI (if x < a then x else a) r := rfl
    rw [st]
    by_cases h : x < a
    · rw [if_pos h]
      obtain ⟨h1, h2, h3⟩ := minI_le r x
      refine ⟨by omega, fun y hy => ?_, .inr ?_⟩
      · rcases List.mem_cons.mp hy with rfl | hy
        · exact h1
        · exact h2 y hy
      · rcases h3 with h3 | h3
        · rw [h3]; exact List.mem_cons_self
        · exact List.mem_cons_of_mem _ h3
    · rw [if_neg h]
      obtain ⟨h1, h2, h3⟩ := minI_le r a
      refine ⟨h1, fun y hy => ?_, ?_⟩
      · rcases List.mem_cons.mp hy with rfl | hy
        · omega
        · exact h2 y hy
      · rcases h3 with h3 | h3
        · exact .inl h3
        · exact .inr (List.mem_cons_of_mem _ h3)
section
variable {b : Bs} {F H : Hp}
theorem RdL.one {d : D} {xs : List V} (r : RdL b F H [d] xs) : ∃ v, xs = [v] ∧ Rd1 b F H d v := by
  cases r with
  | cons r t => cases t; exact ⟨_, rfl, r⟩
theorem RdL.two {d e : D} {xs : List V} (r : RdL b F H [d, e] xs) : ∃ v u, xs = [v, u] ∧ Rd1 b F H d v ∧ Rd1 b F H e u := by
  cases r with
  | cons r t =>
    obtain ⟨u, rfl, q⟩ := t.one
    exact ⟨_, _, rfl, r, q⟩
theorem RepL.bls {K : PySem.W.Frag} {mg : Str → Option Value} {F : Hp} : ∀ {ds : List D} {vs : List V} {bs : List Bool}, RepL K mg F ds vs → blsOf ds = some bs → vs = bs.map V.bl
  | [], _, _, r, e => by cases e; unfold RepL at r; exact r
  | d :: ds, _, bs, r, e => by
    unfold RepL at r
    obtain ⟨v, s, rfl, q, l⟩ := r
    cases d with
    | bl c =>
      unfold blsOf at e
      cases e2 : blsOf ds with
      | none => rw [e2] at e; cases e
      | some bs' =>
        rw [e2] at e; cases e
        unfold Rep at q
        rw [q, RepL.bls l e2]; rfl
    | _ => cases e
theorem RepL.strs {K : PySem.W.Frag} {mg : Str → Option Value} {F : Hp} : ∀ {ds : List D} {vs : List V} {bs : List Str}, RepL K mg F ds vs → strsOf ds = some bs → vs = bs.map V.str
  | [], _, _, r, e => by cases e; unfold RepL at r; exact r
  | d :: ds, _, bs, r, e => by
    unfold RepL at r
    obtain ⟨v, s, rfl, q, l⟩ := r
    cases d with
    | str c =>
      unfold strsOf at e
      cases e2 : strsOf ds with
      | none => rw [e2] at e; cases e
      | some bs' =>
        rw [e2] at e; cases e
        unfold Rep at q
        rw [q, RepL.strs l e2]; rfl
    | _ => cases e
theorem RepL.ints {K : PySem.W.Frag} {mg : Str → Option Value} {F : Hp} : ∀ {ds : List D} {vs : List V} {bs : List Int}, RepL K mg F ds vs → intsOf ds = some bs → vs = bs.map V.int
  | [], _, _, r, e => by cases e; unfold RepL at r; exact r
  | d :: ds, _, bs, r, e => by
    unfold RepL at r
    obtain ⟨v, s, rfl, q, l⟩ := r
    cases d with
    | int c =>
      unfold intsOf at e
      cases e2 : intsOf ds with
      | none => rw [e2] at e; cases e
      | some bs' =>
        rw [e2] at e; cases e
        unfold Rep at q
        rw [q, RepL.ints l e2]; rfl
    | _ => cases e
theorem RepL.ofStrs {K : PySem.W.Frag} {mg : Str → Option Value} {F : Hp} (l : List Str) : RepL K mg F (l.map .str) (l.map V.str) := RepL.map (fun i => by unfold Rep; rfl) l
theorem RepL.ofInts {K : PySem.W.Frag} {mg : Str → Option Value} {F : Hp} (l : List Int) : RepL K mg F (l.map .int) (l.map V.int) := RepL.map (fun i => by unfold Rep; rfl) l
/-- dicts: put, drop, merge -/
theorem RepK.any {K : PySem.W.Frag} {mg : Str → Option Value} {F : Hp} {k : D} {kk : Key} (ek : keyOf k = some kk) : ∀ {kvs : List (D × D)} {hk : List (Key × V)}, RepK K mg F kvs hk → (kvs.any fun p => decide (keyOf p.1 = keyOf k)) = hk.any fun kv => decide (kv.1 = kk)
  | [], _, r => by unfold RepK at r; subst r; rfl
  | (c, d) :: kvs, _, r => by
    unfold RepK at r
    obtain ⟨c', v, s, rfl, hc, rv, rr⟩ := r
    have e := dkey_iff.mp hc
    rw [List.any_cons, List.any_cons, RepK.any ek rr]
    congr 1
    show decide (keyOf c = keyOf k) = decide (c' = kk)
    rw [e, ek]
    by_cases h : c' = kk
    · rw [decide_eq_true h, decide_eq_true (congrArg some h)]
    · rw [decide_eq_false h, decide_eq_false fun q => h (Option.some.inj q)]
theorem RepK.snoc {K : PySem.W.Frag} {mg : Str → Option Value} {F : Hp} {k d : D} {kk : Key} {v : V} (ek : DKey k kk) (rv : Rep K mg F d v) : ∀ {kvs : List (D × D)} {hk : List (Key × V)}, RepK K mg F kvs hk → RepK K mg F (kvs ++ [(k, d)]) (hk ++ [(kk, v)])
  | [], _, r => by
    unfold RepK at r; subst r
    show RepK K mg F [(k, d)] [(kk, v)]
    unfold RepK
    refine ⟨kk, v, [], rfl, ek, rv, ?_⟩
    unfold RepK; rfl
  | (c, e) :: kvs, _, r => by
    unfold RepK at r
    obtain ⟨c', w, s, rfl, hc, rw', rr⟩ := r
    show RepK K mg F ((c, e) :: (kvs ++ [(k, d)])) ((c', w) :: (s ++ [(kk, v)]))
    unfold RepK
    exact ⟨c', w, _, rfl, hc, rw', RepK.snoc ek rv rr⟩
theorem RepK.over {K : PySem.W.Frag} {mg : Str → Option Value} {F : Hp} {k d : D} {kk : Key} {v : V} (ek : keyOf k = some kk) (rv : Rep K mg F d v) : ∀ {kvs : List (D × D)} {hk : List (Key × V)}, RepK K mg F kvs hk →
    RepK K mg F (kvs.map fun p => if keyOf p.1 = keyOf k then (p.1, d) else p) (hk.map fun kv => if kv.1 = kk then (kv.1, v) else kv)
  | [], _, r => by unfold RepK at r; subst r; show RepK K mg F [] []; unfold RepK; rfl
  | (c, e) :: kvs, _, r => by
    unfold RepK at r
    obtain ⟨c', w, s, rfl, hc, rw', rr⟩ := r
    have ec := dkey_iff.mp hc
    rw [List.map_cons, List.map_cons]
    have ih := RepK.over (d := d) (v := v) ek rv rr
    by_cases h : c' = kk
    · have h' : keyOf c = keyOf k := by rw [ec, ek, h]
      rw [if_pos (by exact h'), if_pos (by exact h)]
      unfold RepK
      exact ⟨c', v, _, rfl, hc, rv, ih⟩
    · have h' : ¬ keyOf c = keyOf k := by rw [ec, ek]; exact fun q => h (Option.some.inj q)
      rw [if_neg (by exact h'), if_neg (by exact h)]
      unfold RepK
      exact ⟨c', w, _, rfl, hc, rw', ih⟩
theorem RepK.put {K : PySem.W.Frag} {mg : Str → Option Value} {F : Hp} {k d : D} {kk : Key} {v : V} {kvs : List (D × D)} {hk : List (Key × V)} (ek : keyOf k = some kk) (rv : Rep K mg F d v) (r : RepK K mg F kvs hk) : RepK K mg F (putD kvs k d) (putK hk kk v) := by
  unfold putD putK
  rw [r.any ek]
  split
  · exact r.over ek rv
  · exact r.snoc (dkey_iff.mpr ek) rv
theorem RepK.drop {K : PySem.W.Frag} {mg : Str → Option Value} {F : Hp} {k : D} {kk : Key} (ek : keyOf k = some kk) : ∀ {kvs : List (D × D)} {hk : List (Key × V)}, RepK K mg F kvs hk → RepK K mg F (dropD kvs k) (dropK hk kk)
  | [], _, r => by unfold RepK at r; subst r; show RepK K mg F [] []; unfold RepK; rfl
  | (c, e) :: kvs, _, r => by
    unfold RepK at r
    obtain ⟨c', w, s, rfl, hc, rw', rr⟩ := r
    have ec := dkey_iff.mp hc
    have ih := RepK.drop ek rr
    unfold dropD dropK at ih ⊢
    rw [List.filter_cons, List.filter_cons]
    by_cases h : c' = kk
    · have h' : keyOf c = keyOf k := by rw [ec, ek, h]
      rw [if_neg (by simp [h']), if_neg (by simp [h])]
      exact ih
    · have h' : ¬ keyOf c = keyOf k := by rw [ec, ek]; exact fun q => h (Option.some.inj q)
      rw [if_pos (by simp [h']), if_pos (by simp [h])]
      unfold RepK
      exact ⟨c', w, _, rfl, hc, rw', ih⟩
theorem RepK.merge {K : PySem.W.Frag} {mg : Str → Option Value} {F : Hp} : ∀ {more : List (D × D)} {hm : List (Key × V)} {kvs : List (D × D)} {hk : List (Key × V)}, RepK K mg F more hm → RepK K mg F kvs hk → RepK K mg F (mergeD kvs more) (mergeK hk hm)
  | [], _, _, _, r, q => by unfold RepK at r; subst r; exact q
  | (c, e) :: more, _, _, _, r, q => by
    unfold RepK at r
    obtain ⟨c', w, s, rfl, hc, rw', rr⟩ := r
    exact RepK.merge (more := more) (hm := s) rr (q.put (dkey_iff.mp hc) rw')
theorem keyOf_kV {K : PySem.W.Frag} {mg : Str → Option Value} {F : Hp} {k : D} {kk : Key} (h : keyOf k = some kk) : Rep K mg F k (kV kk) := by
  cases k with
  | int i => cases h; unfold Rep; rfl
  | str i => cases h; unfold Rep; rfl
  | _ => cases h
theorem RepK.keys {K : PySem.W.Frag} {mg : Str → Option Value} {F : Hp} : ∀ {kvs : List (D × D)} {hk : List (Key × V)}, RepK K mg F kvs hk → RepL K mg F (kvs.map (·.1)) (hk.map fun kv => kV kv.1)
  | [], _, r => by unfold RepK at r; subst r; show RepL K mg F [] []; unfold RepL; rfl
  | (c, e) :: kvs, _, r => by
    unfold RepK at r
    obtain ⟨c', w, s, rfl, hc, rw', rr⟩ := r
    rw [List.map_cons, List.map_cons]
    unfold RepL
    exact ⟨kV c', _, rfl, keyOf_kV (dkey_iff.mp hc), RepK.keys rr⟩
/-- a list of pairs is what a dict is made of -/
theorem pairs_rep {K : PySem.W.Frag} {mg : Str → Option Value} {F H : Hp} (sb : Sub F H) : ∀ {ds : List D} {vs : List V} {ps : List (D × D)}, RepL K mg F ds vs → pairsD ds = some ps → ∃ (as : List Addr) (hk : List (Key × V)), vs = as.map V.ref ∧ Paired (fun p kv => SqT K H p [kV kv.1, kv.2]) as hk ∧ RepK K mg F ps hk
  | [], _, _, r, e => by
    cases e; unfold RepL at r; subst r
    refine ⟨[], [], rfl, .nil, ?_⟩
    unfold RepK; rfl
  | d :: ds, _, ps, r, e => by
    unfold RepL at r
    obtain ⟨v, s, rfl, q, l⟩ := r
    unfold pairsD at e
    split at e
    · rename_i h; cases h
    · rename_i k c r' h
      cases h
      split at e
      · rename_i hk
        cases e2 : pairsD ds with
        | none => rw [e2] at e; cases e
        | some ps' =>
          rw [e2] at e; cases e
          obtain ⟨as, hk', rfl, pp, rk⟩ := pairs_rep sb l e2
          obtain ⟨kk, ek⟩ := Option.isSome_iff_exists.mp hk
          unfold Rep at q
          obtain ⟨a, xs, rfl, sq, l2⟩ := q
          unfold RepL at l2
          obtain ⟨v1, s1, rfl, q1, l3⟩ := l2
          unfold RepL at l3
          obtain ⟨v2, s2, rfl, q2, l4⟩ := l3
          unfold RepL at l4
          subst l4
          have := keyOf_rd (H := H) (.inl q1) ek
          subst this
          refine ⟨a :: as, (kk, v2) :: hk', rfl, .cons (sb.sqT sq) pp, ?_⟩
          unfold RepK
          exact ⟨kk, v2, hk', rfl, dkey_iff.mpr ek, q2, rk⟩
      · cases e
    · cases e
/-- a new dict -/
theorem gDct {ρ : DL.Env} {σ : St} {Q : VK} (ok : Ok b ρ F H σ) {ds : List (D × D)} {vs : List (Key × V)} (h : Gives b ρ σ F (some (.ow (.dct ds))) Q) (r : RepK b.K b.mg F ds vs) : ∀ p, H p = none → Q (.ref p) (upd H p (.dK vs)) := fun p hp => by
  have g : Grow F H F (upd H p (.dK vs)) := Grow.owned ok.sub hp
  exact h _ F _ (ok.grow g) (Same.refl _) ⟨p, rfl, ok.fresh_F hp, ok.fresh_0 hp, ⟨vs, upd_same, r⟩, ok.apart_new hp, ok.prot_new hp⟩
end
theorem CallR.orD {X : Cx} {v : Value} {r r' : List V → Hp → VK → Prop} (h : CallR X v r) (h' : CallR X v r') : CallR X v (fun xs H Q => r xs H Q ∨ r' xs H Q) := by
  intro pins s σ H xs us Q I rx q
  rcases q with q | q
  · exact h pins s σ H xs us Q I rx q
  · exact h' pins s σ H xs us Q I rx q
theorem weakC {X : Cx} {v : Value} {r r' : List V → Hp → VK → Prop} (h : CallR X v r) (i : ∀ xs H Q, r' xs H Q → r xs H Q) : CallR X v r' := fun pins s σ H xs us Q I rx q => h pins s σ H xs us Q I rx (i _ _ _ q)
section
variable {X : Cx}
theorem call_lenRd : CallR X (.builtin "len") (fun xs H Q => ∃ a kvs, xs = [V.ref a] ∧ Rd H a (.dK kvs) ∧ Q (.int kvs.length) H) := by
  intro pins s σ H xs us Q I r ⟨a, kvs, e, hd, q⟩
  subst e
  obtain ⟨u, rfl, rx⟩ := vals1 r
  cases rx
  exact d_len I hd fun t s' I' => ⟨.int _, H, I', ⟨t, rfl⟩, q⟩
theorem cd_len : CallD X (.builtin "len") fLen := by
  intro b fit
  refine weakC (CallR.orD call_len call_lenRd) fun xs H Q ⟨F, σ', ρ, ds, ok, r, g⟩ => ?_
  unfold fLen at g
  split at g
  · obtain ⟨v, rfl, r1⟩ := r.one
    split at g
    · cases rStr r1
      exact .inl ⟨_, _, rfl, ⟨by assumption, rfl⟩, gInt ok g⟩
    · exact g.elim
  · obtain ⟨v, rfl, r1⟩ := r.one
    obtain ⟨a, xs, rfl, e1, l1⟩ := RepD.lst ok.sub r1
    exact .inl ⟨_, _, rfl, .inl ⟨xs, SqL.of e1, l1.len⟩, gInt ok g⟩
  · obtain ⟨v, rfl, r1⟩ := r.one
    obtain ⟨a, xs, rfl, e1, l1⟩ := RepD.tup ok.sub r1
    rw [fit.K] at e1
    exact .inl ⟨_, _, rfl, .inr ⟨xs, e1, l1.len⟩, gInt ok g⟩
  · obtain ⟨v, rfl, r1⟩ := r.one
    obtain ⟨a, rfl, e1⟩ := RepD.scr ok.sub r1
    rw [fit.K] at e1
    exact .inl ⟨_, _, rfl, .inl ⟨_, e1, (List.length_map ..).symm⟩, gInt ok g⟩
  · obtain ⟨v, rfl, r1⟩ := r.one
    obtain ⟨a, hk, rfl, e1, l1⟩ := RepD.dct ok.sub r1
    exact .inr ⟨a, hk, rfl, e1, by rw [← l1.len]; exact gInt ok g⟩
  · exact g.elim
theorem cd_abs : CallD X (.builtin "abs") fAbs := by
  intro b fit
  refine weakC call_abs fun xs H Q ⟨F, σ', ρ, ds, ok, r, g⟩ => ?_
  unfold fAbs at g
  split at g
  · obtain ⟨v, rfl, r1⟩ := r.one
    cases rInt r1
    exact ⟨_, rfl, gInt ok g⟩
  · exact g.elim
theorem cd_max (hc : X.calm = true) : CallD X (.builtin "max") fMax := by
  intro b fit
  refine weakC (CallR.orD (call_max2 hc) (cr_max hc)) fun xs H Q ⟨F, σ', ρ, ds, ok, r, g⟩ => ?_
  unfold fMax at g
  split at g
  · unfold fMaxL at g
    obtain ⟨v, rfl, r1⟩ := r.one
    split at g
    · rename_i l e
      cases e
      obtain ⟨a, xs, rfl, e1, l1⟩ := RepD.lst ok.sub r1
      split at g
      · rename_i x t ei
        have := l1.ints ei
        subst this
        obtain ⟨h1, h2, h3⟩ := maxI_le t x
        refine .inr ⟨a, x :: t, rfl, SqL.of e1, Nat.succ_pos _, fun m hm hy => ?_⟩
        have e : m = maxI x t := by
          have a1 := hy (maxI x t) (by rcases h3 with h3 | h3 <;> simp [h3])
          have a2 : m ≤ maxI x t := by
            rcases List.mem_cons.mp hm with rfl | hm
            · exact h1
            · exact h2 m hm
          omega
        rw [e]
        exact gInt ok g
      · exact g.elim
    · exact g.elim
  · unfold fMax2 at g
    split at g
    · obtain ⟨v, u, rfl, r1, r2⟩ := r.two
      cases rInt r1; cases rInt r2
      exact .inl ⟨_, _, rfl, gInt ok g⟩
    · exact g.elim
theorem cd_min (hc : X.calm = true) : CallD X (.builtin "min") fMin := by
  intro b fit
  refine weakC (CallR.orD (call_min2 hc) (cr_min hc)) fun xs H Q ⟨F, σ', ρ, ds, ok, r, g⟩ => ?_
  unfold fMin at g
  split at g
  · unfold fMinL at g
    obtain ⟨v, rfl, r1⟩ := r.one
    split at g
    · rename_i l e
      cases e
      obtain ⟨a, xs, rfl, e1, l1⟩ := RepD.lst ok.sub r1
      split at g
      · rename_i x t ei
        have := l1.ints ei
        subst this
        obtain ⟨h1, h2, h3⟩ := minI_le t x
        refine .inr ⟨a, x :: t, rfl, SqL.of e1, Nat.succ_pos _, fun m hm hy => ?_⟩
        have e : m = minI x t := by
          have a1 := hy (minI x t) (by rcases h3 with h3 | h3 <;> simp [h3])
          have a2 : minI x t ≤ m := by
            rcases List.mem_cons.mp hm with rfl | hm
            · exact h1
            · exact h2 m hm
          omega
        rw [e]
        exact gInt ok g
      · exact g.elim
    · exact g.elim
  · unfold fMin2 at g
    split at g
    · obtain ⟨v, u, rfl, r1, r2⟩ := r.two
      cases rInt r1; cases rInt r2
      exact .inl ⟨_, _, rfl, gInt ok g⟩
    · exact g.elim
theorem cd_int : CallD X (.type "int") fInt := by
  intro b fit
  refine weakC (CallR.orD call_int1 call_int_str) fun xs H Q ⟨F, σ', ρ, ds, ok, r, g⟩ => ?_
  unfold fInt at g
  split at g
  · obtain ⟨v, rfl, r1⟩ := r.one
    cases rInt r1
    exact .inl (.inl ⟨_, rfl, gInt ok g⟩)
  · obtain ⟨v, rfl, r1⟩ := r.one
    cases rBl r1
    exact .inl (.inr ⟨_, rfl, gInt ok g⟩)
  · obtain ⟨v, rfl, r1⟩ := r.one
    cases rStr r1
    split at g
    · rename_i a _ hz
      cases e : PySem.intText? a with
      | none => rw [e] at g; exact g.elim
      | some n => rw [e] at g; exact .inr ⟨_, n, rfl, e, hz, gInt ok g⟩
    · exact g.elim
  · exact g.elim
theorem cd_str : CallD X (.type "str") fStr := by
  intro b fit
  refine weakC (CallR.orD call_str_int SkE.call_str_str) fun xs H Q ⟨F, σ', ρ, ds, ok, r, g⟩ => ?_
  unfold fStr at g
  split at g
  · obtain ⟨v, rfl, r1⟩ := r.one
    cases rInt r1
    split at g
    · rename_i hz
      exact .inl ⟨_, rfl, hz, gStr ok g⟩
    · exact g.elim
  · obtain ⟨v, rfl, r1⟩ := r.one
    cases rStr r1
    exact .inr ⟨_, rfl, gStr ok g⟩
  · exact g.elim
theorem cd_all (hc : X.calm = true) : CallD X (.builtin "all") fAll := by
  intro b fit
  refine weakC (cr_all hc) fun xs H Q ⟨F, σ', ρ, ds, ok, r, g⟩ => ?_
  unfold fAll at g
  split at g
  · rename_i l
    obtain ⟨v, rfl, r1⟩ := r.one
    obtain ⟨a, xs, rfl, e1, l1⟩ := RepD.lst ok.sub r1
    cases e : blsOf l with
    | none => rw [e] at g; exact g.elim
    | some bs =>
      rw [e] at g
      have := l1.bls e
      subst this
      exact ⟨a, bs, rfl, SqL.of e1, gBl ok g⟩
  · exact g.elim
theorem cd_any (hc : X.calm = true) : CallD X (.builtin "any") fAny := by
  intro b fit
  refine weakC (cr_any hc) fun xs H Q ⟨F, σ', ρ, ds, ok, r, g⟩ => ?_
  unfold fAny at g
  split at g
  · rename_i l
    obtain ⟨v, rfl, r1⟩ := r.one
    obtain ⟨a, xs, rfl, e1, l1⟩ := RepD.lst ok.sub r1
    cases e : blsOf l with
    | none => rw [e] at g; exact g.elim
    | some bs =>
      rw [e] at g
      have := l1.bls e
      subst this
      exact ⟨a, bs, rfl, SqL.of e1, gBl ok g⟩
  · exact g.elim
theorem cd_tuple : CallD X (.type "tuple") fTuple := by
  intro b fit
  refine weakC call_tuple_of fun xs H Q ⟨F, σ', ρ, ds, ok, r, g⟩ => ?_
  unfold fTuple at g
  split at g
  · obtain ⟨v, rfl, r1⟩ := r.one
    obtain ⟨a, xs, rfl, e1, l1⟩ := RepD.lst ok.sub r1
    exact ⟨a, xs, rfl, .inl ⟨SqL.of e1, gTup ok g l1⟩⟩
  · obtain ⟨v, rfl, r1⟩ := r.one
    have r1' := r1
    obtain ⟨a, xs, rfl, e1, l1⟩ := RepD.tup ok.sub r1
    rw [fit.K] at e1
    refine ⟨a, xs, rfl, .inr ⟨e1, gFz ok g ?_⟩⟩
    rcases r1' with r | ⟨_, _, oa⟩
    · exact r
    · exact oa.elim
  · exact g.elim
theorem cd_list (hc : X.calm = true) : CallD X (.type "list") fList := by
  intro b fit
  refine weakC (CallR.orD call_list_of (call_listD hc)) fun xs H Q ⟨F, σ', ρ, ds, ok, r, g⟩ => ?_
  unfold fList at g
  split at g
  · obtain ⟨v, rfl, r1⟩ := r.one
    obtain ⟨a, xs, rfl, e1, l1⟩ := RepD.lst ok.sub r1
    exact .inl ⟨a, xs, rfl, .inl (SqL.of e1), gLst ok g l1⟩
  · obtain ⟨v, rfl, r1⟩ := r.one
    obtain ⟨a, xs, rfl, e1, l1⟩ := RepD.tup ok.sub r1
    rw [fit.K] at e1
    exact .inl ⟨a, xs, rfl, .inr e1, gLst ok g l1⟩
  · obtain ⟨v, rfl, r1⟩ := r.one
    obtain ⟨a, hk, rfl, e1, l1⟩ := RepD.dct ok.sub r1
    exact .inr ⟨a, hk, rfl, e1, gLst ok g l1.keys⟩
  · exact g.elim
theorem cd_dict (hc : X.calm = true) : CallD X (.type "dict") fDict := by
  intro b fit
  refine weakC (CallR.orD (call_dictP hc) call_dictD) fun xs H Q ⟨F, σ', ρ, ds, ok, r, g⟩ => ?_
  unfold fDict at g
  split at g
  · rename_i l
    obtain ⟨v, rfl, r1⟩ := r.one
    obtain ⟨a, xs, rfl, e1, l1⟩ := RepD.lst ok.sub r1
    cases e : pairsD l with
    | none => rw [e] at g; exact g.elim
    | some ps =>
      rw [e] at g
      obtain ⟨as, hk, rfl, pp, rk⟩ := pairs_rep ok.sub l1 e
      rw [fit.K] at pp
      exact .inl ⟨a, as, hk, rfl, SqL.of e1, pp, gDct ok g (rk.merge (by unfold RepK; rfl))⟩
  · obtain ⟨v, rfl, r1⟩ := r.one
    obtain ⟨a, hk, rfl, e1, l1⟩ := RepD.dct ok.sub r1
    exact .inr ⟨a, hk, rfl, e1, gDct ok g l1⟩
  · exact g.elim
theorem keys_strs {K : PySem.W.Frag} {mg : Str → Option Value} {F : Hp} : ∀ {kvs : List (D × D)} {hk : List (Key × V)} {ss : List Str}, RepK K mg F kvs hk → strsOf (kvs.map (·.1)) = some ss → hk.map (·.1) = ss.map Sum.inr
  | [], _, _, r, e => by cases e; unfold RepK at r; subst r; rfl
  | (c, d) :: kvs, _, ss, r, e => by
    unfold RepK at r
    obtain ⟨c', w, s, rfl, hc, rw', rr⟩ := r
    rw [List.map_cons] at e
    cases c with
    | str z =>
      dsimp only at e
      unfold strsOf at e
      cases e2 : strsOf (kvs.map (·.1)) with
      | none => rw [e2] at e; cases e
      | some ss' =>
        rw [e2] at e; cases e
        have := dkey_iff.mp hc
        cases this
        rw [List.map_cons, List.map_cons, keys_strs rr e2]
    | _ => cases e
theorem keys_ints {K : PySem.W.Frag} {mg : Str → Option Value} {F : Hp} : ∀ {kvs : List (D × D)} {hk : List (Key × V)} {ss : List Int}, RepK K mg F kvs hk → intsOf (kvs.map (·.1)) = some ss → hk.map (·.1) = ss.map Sum.inl
  | [], _, _, r, e => by cases e; unfold RepK at r; subst r; rfl
  | (c, d) :: kvs, _, ss, r, e => by
    unfold RepK at r
    obtain ⟨c', w, s, rfl, hc, rw', rr⟩ := r
    rw [List.map_cons] at e
    cases c with
    | int z =>
      dsimp only at e
      unfold intsOf at e
      cases e2 : intsOf (kvs.map (·.1)) with
      | none => rw [e2] at e; cases e
      | some ss' =>
        rw [e2] at e; cases e
        have := dkey_iff.mp hc
        cases this
        rw [List.map_cons, List.map_cons, keys_ints rr e2]
    | _ => cases e
theorem cd_sorted (hc : X.calm = true) : CallD X (.builtin "sorted") fSorted := by
  intro b fit
  refine weakC (CallR.orD (CallR.orD cr_sortedS cr_sorted) (CallR.orD (call_sortedD hc) (call_sortedDI hc))) fun xs H Q ⟨F, σ', ρ, ds, ok, r, g⟩ => ?_
  unfold fSorted at g
  split at g
  · rename_i l
    obtain ⟨v, rfl, r1⟩ := r.one
    obtain ⟨a, xs, rfl, e1, l1⟩ := RepD.lst ok.sub r1
    unfold sortFlat at g
    split at g
    · rename_i ss es
      have := l1.strs es
      subst this
      split at g
      · rename_i h64
        refine .inl (.inl ⟨a, ss, rfl, SqL.of e1, h64, fun ys p hp hs hn => ?_⟩)
        rw [sortS_uniq hp hs]
        exact gLst ok g (RepL.ofStrs _) p hn
      · exact g.elim
    · split at g
      · rename_i is es
        have := l1.ints es
        subst this
        split at g
        · rename_i h64
          refine .inl (.inr ⟨a, is, rfl, SqL.of e1, h64, fun ys p hp hs hn => ?_⟩)
          rw [sortI_uniq hp hs]
          exact gLst ok g (RepL.ofInts _) p hn
        · exact g.elim
      · exact g.elim
  · rename_i l
    obtain ⟨v, rfl, r1⟩ := r.one
    obtain ⟨a, hk, rfl, e1, l1⟩ := RepD.dct ok.sub r1
    unfold sortFlat at g
    split at g
    · rename_i ss es
      split at g
      · rename_i h64
        refine .inr (.inl ⟨a, hk, ss, rfl, e1, keys_strs l1 es, h64, fun ys p hp hs hn => ?_⟩)
        rw [sortS_uniq hp hs]
        exact gLst ok g (RepL.ofStrs _) p hn
      · exact g.elim
    · split at g
      · rename_i is es
        split at g
        · rename_i h64
          refine .inr (.inr ⟨a, hk, is, rfl, e1, keys_ints l1 es, h64, fun ys p hp hs hn => ?_⟩)
          rw [sortI_uniq hp hs]
          exact gLst ok g (RepL.ofInts _) p hn
        · exact g.elim
      · exact g.elim
  · exact g.elim
end
end DL

namespace DL
open PySem PySem.Spec L2

/-! ### what a slot holds is changed -/
section
variable {b : Bs} {W : WX} {σ : St} {ρ : DL.Env} {F H : Hp}
theorem Sl.put_held {s : Sl} {d : D} : (s.put d).held = s.held := by cases s <;> rfl
theorem Ok.mut (k : Ok b ρ F H σ) {i : Nat} {s : Sl} {a : Addr} {d' : D} {o' : HO} (e : ρ[i]? = some s) (hs : s.held = true) (ea : σ[i]? = some (some (.ref a))) (oa : OwnAt b.K b.mg F (upd H a o') a d') : Ok b (ρ.set i (s.put d')) F (upd H a o') σ := by
  have z := k.slot i s e
  rw [ea] at z
  have hF : F a = none := by
    cases s with
    | xn d => cases hs
    | un => cases hs
    | fz d => cases hs
    | ow d => obtain ⟨c, ec, n, _⟩ := z; cases ec; exact n
    | bo d => obtain ⟨c, ec, n, _⟩ := z; cases ec; exact n
  have hold : ∀ c o, b.H_0 c = some o → c ∉ b.B.map (·.2) → c ≠ a := fun c o e0 hb hc => by
    subst hc
    cases s with
    | xn d => cases hs
    | un => cases hs
    | fz d => cases hs
    | ow d => obtain ⟨c', ec, _, n0, _⟩ := z; cases ec; rw [n0] at e0; cases e0
    | bo d => obtain ⟨c', ec, _, n0, _⟩ := z; cases ec; exact hb n0
  refine ⟨fun x o ex => ?_, fun c o e0 hb => ?_, k.ext, k.new, by rw [List.length_set]; exact k.len, fun j t ej => ?_, fun j l t t' c ej el h1 h2 q1 q2 => ?_, fun p hp => ?_, fun p hp => ?_⟩
  · have hx : x ≠ a := fun q => by subst q; rw [hF] at ex; cases ex
    rw [upd_ne hx]
    exact k.sub x o ex
  · rw [upd_ne (hold c o e0 hb)]
    exact k.old c o e0 hb
  · rcases set_get ej with ⟨rfl, _, rfl⟩ | ⟨hj, ej'⟩
    · rw [ea]
      cases s with
      | xn d => cases hs
      | un => cases hs
      | fz d => cases hs
      | ow d => obtain ⟨c, ec, n, n0, _⟩ := z; cases ec; exact ⟨a, rfl, n, n0, oa⟩
      | bo d => obtain ⟨c, ec, n, n0, _⟩ := z; cases ec; exact ⟨a, rfl, n, n0, oa⟩
    · have w := k.slot j t ej'
      have hne : ∀ c, t.held = true → (σ[j]?).getD none = some (.ref c) → c ≠ a := fun c ht ec q => by
        subst q
        exact hj (k.sep j i t s c ej' e ht hs (getD_ref ec) ea)
      cases t with
      | xn d => exact w
      | un => trivial
      | fz d => exact w
      | ow d =>
        obtain ⟨c, ec, n, n0, oc⟩ := w
        exact ⟨c, ec, n, n0, oc.mono (Same.refl _) fun o q => by rw [upd_ne (hne c rfl ec)]; exact q⟩
      | bo d =>
        obtain ⟨c, ec, n, n0, oc⟩ := w
        exact ⟨c, ec, n, n0, oc.mono (Same.refl _) fun o q => by rw [upd_ne (hne c rfl ec)]; exact q⟩
  · have back : ∀ {m : Nat} {u : Sl}, (ρ.set i (s.put d'))[m]? = some u → ∃ u', ρ[m]? = some u' ∧ u'.held = u.held := fun {m u} em => by
      rcases set_get em with ⟨rfl, _, rfl⟩ | ⟨_, em'⟩
      · exact ⟨s, e, Sl.put_held.symm⟩
      · exact ⟨u, em', rfl⟩
    obtain ⟨u1, f1, g1⟩ := back ej
    obtain ⟨u2, f2, g2⟩ := back el
    exact k.sep j l u1 u2 c f1 f2 (by rw [g1]; exact h1) (by rw [g2]; exact h2) q1 q2
  · obtain ⟨e1, d, e2⟩ := k.bor p hp
    refine ⟨e1, ?_⟩
    by_cases hi : p.1 = i
    · rw [hi] at e2 ⊢
      rw [e] at e2; cases e2
      exact ⟨d', set_at e⟩
    · exact ⟨d, by rw [List.getElem?_set_ne (Ne.symm hi)]; exact e2⟩
  · obtain ⟨h1, h2, h3⟩ := k.prot p hp
    have hpa : p.1 ≠ a := fun q => h3 i s e hs (by rw [q]; exact ea)
    refine ⟨by rw [upd_ne hpa]; exact h1, h2, fun j t ej ht w => ?_⟩
    rcases set_get ej with ⟨rfl, _, rfl⟩ | ⟨_, ej'⟩
    · exact hpa (by rw [ea] at w; exact (V.ref.inj (Option.some.inj (Option.some.inj w))).symm)
    · exact h3 j t ej' ht w
end

/-! ### methods of built-in types -/
def kindD : D → String
  | .str _ => "str"
  | .lst _ => "list"
  | .scr _ => "list"
  | .dct _ => "dict"
  | .int _ => "int"
  | _ => ""
def tyW (K : PySem.W.Frag) (T : String) (x : V) (H : Hp) : Prop := tyV K T x H ∨ (T = "dict" ∧ ∃ p, x = .ref p ∧ IsD H p)
theorem tyW_is {X : Cx} {pins : List (Addr × Obj)} {σ : St} {H : Hp} {s : Shared} {T : String} {x : V} {v : Value} (I : Inv X pins σ H s) (r : RelV x v) (ty : tyW X.K T x H) :
    s.TypeIs v T ∧ ∀ a, v = .ref a → ∃ ob, s.heap.get? a = some ob ∧ ob.dict = none := by
  rcases ty with ty | ⟨rfl, p, rfl, d⟩
  · exact tyV_is I r ty
  · cases r
    obtain ⟨h1, h2, _⟩ := isD_at I d
    exact ⟨h1, h2⟩
theorem kind_ty {K : PySem.W.Frag} {mg : Str → Option Value} {F H : Hp} {d : D} {v : V} {T : String} (sb : Sub F H) (r : RepD K mg F H d v) (h : kindD d = T) (hT : T ≠ "") : tyW K T v H := by
  subst h
  cases d with
  | str z => exact .inl (by rw [show v = .str z from (RepD.flat (d := .str z) rfl r).1]; exact rfl)
  | int z => exact .inl (by rw [show v = .int z from (RepD.flat (d := .int z) rfl r).1]; exact rfl)
  | lst l =>
    obtain ⟨a, xs, rfl, e1, _⟩ := r.lst sb
    exact .inl (.inl ⟨rfl, xs, SqL.of e1⟩)
  | scr l =>
    obtain ⟨a, rfl, e1⟩ := r.scr sb
    exact .inl (.inl ⟨rfl, _, e1⟩)
  | dct l =>
    obtain ⟨a, hk, rfl, e1, _⟩ := r.dct sb
    exact .inr ⟨rfl, a, rfl, .inl ⟨hk, e1⟩⟩
  | _ => exact absurd rfl hT
section
variable {X : Cx} {o e : Expr} {es : List Expr} {to : TE} {t : TA} {name : Str} {apos cpos : Pos} {T id : String} {r : V → List V → Hp → VK → Prop}
def tBW0 (K : PySem.W.Frag) (T : String) (r : V → List V → Hp → VK → Prop) (to : TE) : TE := fun σ H Q => to σ H fun x H1 => tyW K T x H1 ∧ r x [] H1 Q
def tBW (K : PySem.W.Frag) (T : String) (r : V → List V → Hp → VK → Prop) (to : TE) (t : TA) : TE := fun σ H Q => to σ H fun x H1 => tyW K T x H1 ∧ t σ H1 fun xs H2 => r x xs H2 Q
theorem pe_bw0 (pa : PlainAttrs T) (slot : Slot T name id) (hty : typeOf (.builtin id) = pure (.type "method_descriptor")) (hm : MtR X id r) (ho : PE X o to)
    (hbase : attributeBase o name X.env (eval o X.env) = eval o X.env) (hline : (apos.endLine == cpos.line) = true) : PE X (.Call (.Attribute o name apos) [] [] cpos) (tBW0 X.K T r to) := by
  refine ⟨fun pins s σ H Q I h => ?_⟩
  refine wpAny_Call_method0_late hbase hline (thn (ho.run pins s σ H _ I h) fun v s1 ⟨x, H1, I1, r1, ty, q1⟩ => ?_)
  obtain ⟨h1, h2⟩ := tyW_is I1 r1 ty
  exact ⟨T, id, pa, slot, hty, h1, h2, Calls.callWith_builtin rfl (PySem.evalArgs_none (hm pins s1 σ H1 x [] v [] Q I1 r1 .nil q1))⟩
theorem pe_bw (pa : PlainAttrs T) (slot : Slot T name id) (hty : typeOf (.builtin id) = pure (.type "method_descriptor")) (hm : MtR X id r) (ho : PE X o to) (ha : PA X (e :: es) t)
    (hbase : attributeBase o name X.env (eval o X.env) = eval o X.env)
    (hfew : ((backTo cpos (starEach (e :: es) X.env)).all (fun x => !x.1) && (backToKw cpos (keywordEach [] X.env)).all (fun x => x.1.isSome)
      && decide ((e :: es).length + ([] : List Keyword).length + (if ([] : List Keyword).isEmpty then 0 else 1) < 30)) = true)
    (hline : (apos.endLine == cpos.line) = true) (hs : starEach (e :: es) X.env = (false, eval e X.env) :: starEach es X.env) (hplain : (backTo cpos (starEach es X.env)).any (·.1) = false) :
    PE X (.Call (.Attribute o name apos) (e :: es) [] cpos) (tBW X.K T r to t) := by
  refine ⟨fun pins s σ H Q I h => ?_⟩
  refine wpAny_Call_method_late hbase hfew hline rfl (thn (ho.run pins s σ H _ I h) fun v s1 ⟨x, H1, I1, r1, ty, q1⟩ => ?_)
  obtain ⟨h1, h2⟩ := tyW_is I1 r1 ty
  refine ⟨T, id, pa, slot, hty, h1, h2, ?_⟩
  have hA := ha.run cpos pins s1 σ H1 _ I1 q1
  rw [hs] at hA ⊢
  refine Calls.callWith_builtin (by show (false || (backTo cpos (starEach es X.env)).any (·.1)) = false; rw [hplain] <;> rfl) (Calls.evalArgs_plain ?_)
  exact thn hA fun us s2 ⟨vs, H2, I2, r2, q2⟩ => hm pins s2 σ H2 x vs v us Q I2 r1 r2 q2
end
/-- a method that reads: the receiver's kind is looked at ahead of the arguments -/
def mRead (T : String) (f : D → List D → Option AV) (φ : M AV) (ψ : M (List AV)) : M AV := φ.bnd fun a => (rd (stab a)).bnd fun d0 => if kindD d0 = T then ψ.bnd fun avs => (rd (stab a)).bnd fun d => (rdAll avs).bnd fun ds => lift (f d ds) else M.stuck
def mutAt (f : D → List D → Option (D × D)) (av : AV) (ds : List D) : M AV := match av with
  | .sl i => fun ρ => match ρ[i]? with
    | some s => if s.held then match s.data? with
        | some d => match f d ds with
          | some (d', r) => .ok (.fz r) (ρ.set i (s.put d'))
          | none => .no
        | none => .no
      else .no
    | none => .no
  | _ => M.stuck
/-- a method that changes its receiver, which a slot holds -/
def mMut (T : String) (f : D → List D → Option (D × D)) (φ : M AV) (ψ : M (List AV)) : M AV := φ.bnd fun a => (rd (stab a)).bnd fun d0 => if kindD d0 = T then ψ.bnd fun avs => (frzAll avs).bnd fun ds => mutAt f (stab a) ds else M.stuck
def rMut (b : Bs) (f : D → List D → Option (D × D)) : V → List V → Hp → VK → Prop := fun x xs H Q => ∃ F ds a d, x = .ref a ∧ Sub F H ∧ F a = none ∧ OwnAt b.K b.mg F H a d ∧ RepL b.K b.mg F ds xs ∧
  match f d ds with
  | some (d', r) => ∀ o' v, OwnAt b.K b.mg F (upd H a o') a d' → Rep b.K b.mg F r v → Q v (upd H a o')
  | none => False
abbrev MuD (X : Cx) (id : String) (f : D → List D → Option (D × D)) : Prop := ∀ b, Fit X b → MtR X id (rMut b f)
section
variable {X : Cx} {b : Bs} {W : WX} {o e : Expr} {es : List Expr} {name : Str} {apos cpos : Pos} {T id : String} {φ : M AV} {ψ : M (List AV)}
theorem run_read {f : D → List D → Option AV} {σ : St} {F H : Hp} {ρ : DL.Env} {Q : VK} (hT : T ≠ "") (k : Ok b ρ F H σ) (h : After b W σ F (mRead T f φ ψ ρ) fun av ρ' F' H' => ∀ v, RepA b F' H' σ ρ' av v → Q v H') :
    tE b W φ σ H fun x H1 => tyW b.K T x H1 ∧ tAs b W ψ σ H1 fun xs H2 => rDm b f x xs H2 Q := by
  refine runE k h fun av x ρ1 F1 H1 k1 s1 r1 h1 => ?_
  obtain ⟨F2, k2, s2, r2⟩ := k1.stab r1
  obtain ⟨d0, q0, h2⟩ := (h1.later s2).read k2 r2
  by_cases hk : kindD d0 = T
  · rw [if_pos hk] at h2
    refine ⟨kind_ty k2.sub q0 hk hT, runA k2 h2 fun avs vs ρ3 F3 H3 k3 s3 r3 h3 => ?_⟩
    obtain ⟨d, q1, h4⟩ := h3.read k3 (r2.stays s3)
    obtain ⟨ds, q2, h5⟩ := After.readAll k3 r3 h4
    exact ⟨F3, σ, ρ3, d, ds, k3, q1, q2, h5.gives⟩
  · rw [if_neg hk] at h2
    exact h2.elim
theorem run_read0 {f : D → List D → Option AV} {σ : St} {F H : Hp} {ρ : DL.Env} {Q : VK} (hT : T ≠ "") (k : Ok b ρ F H σ) (h : After b W σ F (mRead T f φ mNil ρ) fun av ρ' F' H' => ∀ v, RepA b F' H' σ ρ' av v → Q v H') :
    tE b W φ σ H fun x H1 => tyW b.K T x H1 ∧ rDm b f x [] H1 Q := by
  refine runE k h fun av x ρ1 F1 H1 k1 s1 r1 h1 => ?_
  obtain ⟨F2, k2, s2, r2⟩ := k1.stab r1
  obtain ⟨d0, q0, h2⟩ := (h1.later s2).read k2 r2
  by_cases hk : kindD d0 = T
  · rw [if_pos hk] at h2
    refine ⟨kind_ty k2.sub q0 hk hT, ?_⟩
    obtain ⟨d, q1, h4⟩ := (show After b W σ F2 ((rd (stab av)).bnd (fun d => (rdAll []).bnd fun ds => lift (f d ds)) ρ1) _ from h2).read k2 r2
    exact ⟨F2, σ, ρ1, d, [], k2, q1, .nil, (show After b W σ F2 (lift (f d []) ρ1) _ from h4).gives⟩
  · rw [if_neg hk] at h2
    exact h2.elim
theorem After.mut {f : D → List D → Option (D × D)} {σ : St} {F H : Hp} {ρ : DL.Env} {av : AV} {x : V} {ds : List D} {Q : VK} (k : Ok b ρ F H σ) (r : RepA b F H σ ρ (stab av) x) {xs : List V} (rs : RepL b.K b.mg F ds xs)
    (h : After b W σ F (mutAt f (stab av) ds ρ) fun av ρ' F' H' => ∀ v, RepA b F' H' σ ρ' av v → Q v H') : rMut b f x xs H Q := by
  cases av with
  | fz d => exact h.elim
  | ow d => exact h.elim
  | sl i =>
    have r : σ[i]? = some (some x) := r
    dsimp only [stab, mutAt] at h
    cases e : ρ[i]? with
    | none => rw [e] at h; exact h.elim
    | some s =>
      rw [e] at h
      dsimp only at h
      cases hh : s.held with
      | false => rw [hh] at h; exact h.elim
      | true =>
        rw [hh] at h
        simp only [if_true] at h
        have z := k.slot i s e
        rw [r] at z
        have go : ∀ d a, x = .ref a → F a = none → s.data? = some d → OwnAt b.K b.mg F H a d → rMut b f x xs H Q := fun d a ex n hd oa => by
          subst ex
          rw [hd] at h
          dsimp only at h
          refine ⟨F, ds, a, d, rfl, k.sub, n, oa, rs, ?_⟩
          cases ef : f d ds with
          | none => rw [ef] at h; exact h.elim
          | some p =>
            obtain ⟨d', rr⟩ := p
            rw [ef] at h
            exact fun o' v oa' rv => h F _ (k.mut e hh r oa') (Same.refl _) v rv
        cases s with
        | xn d => cases hh
        | un => cases hh
        | fz d => cases hh
        | ow d => obtain ⟨a, ea, n, _, oa⟩ := z; exact go d a (Option.some.inj ea) n rfl oa
        | bo d => obtain ⟨a, ea, n, _, oa⟩ := z; exact go d a (Option.some.inj ea) n rfl oa
theorem run_mut {f : D → List D → Option (D × D)} {σ : St} {F H : Hp} {ρ : DL.Env} {Q : VK} (hT : T ≠ "") (k : Ok b ρ F H σ) (h : After b W σ F (mMut T f φ ψ ρ) fun av ρ' F' H' => ∀ v, RepA b F' H' σ ρ' av v → Q v H') :
    tE b W φ σ H fun x H1 => tyW b.K T x H1 ∧ tAs b W ψ σ H1 fun xs H2 => rMut b f x xs H2 Q := by
  refine runE k h fun av x ρ1 F1 H1 k1 s1 r1 h1 => ?_
  obtain ⟨F2, k2, s2, r2⟩ := k1.stab r1
  obtain ⟨d0, q0, h2⟩ := (h1.later s2).read k2 r2
  by_cases hk : kindD d0 = T
  · rw [if_pos hk] at h2
    refine ⟨kind_ty k2.sub q0 hk hT, runA k2 h2 fun avs vs ρ3 F3 H3 k3 s3 r3 h3 => ?_⟩
    obtain ⟨ds, ρ4, F4, k4, s4, q4, h4⟩ := After.frozeAll r3 k3 (Same.refl _) h3
    exact After.mut k4 (r2.stays (s3.trans s4)) q4 h4
  · rw [if_neg hk] at h2
    exact h2.elim
theorem run_mut0 {f : D → List D → Option (D × D)} {σ : St} {F H : Hp} {ρ : DL.Env} {Q : VK} (hT : T ≠ "") (k : Ok b ρ F H σ) (h : After b W σ F (mMut T f φ mNil ρ) fun av ρ' F' H' => ∀ v, RepA b F' H' σ ρ' av v → Q v H') :
    tE b W φ σ H fun x H1 => tyW b.K T x H1 ∧ rMut b f x [] H1 Q := by
  refine runE k h fun av x ρ1 F1 H1 k1 s1 r1 h1 => ?_
  obtain ⟨F2, k2, s2, r2⟩ := k1.stab r1
  obtain ⟨d0, q0, h2⟩ := (h1.later s2).read k2 r2
  by_cases hk : kindD d0 = T
  · rw [if_pos hk] at h2
    refine ⟨kind_ty k2.sub q0 hk hT, ?_⟩
    exact After.mut k2 r2 (ds := []) (xs := []) (by unfold RepL; rfl) (show After b W σ F2 (mutAt f (stab av) [] ρ1) _ from h2)
  · rw [if_neg hk] at h2
    exact h2.elim
theorem de_m0 {f : D → List D → Option AV} (fit : Fit X b) (pa : PlainAttrs T) (slot : Slot T name id) (hty : typeOf (.builtin id) = pure (.type "method_descriptor")) (hm : MtD X id f) (ho : PE X o (tE b W φ)) (hT : T ≠ "" := by decide)
    (hbase : attributeBase o name X.env (eval o X.env) = eval o X.env := by rfl) (hline : (apos.endLine == cpos.line) = true := by rfl) : PE X (.Call (.Attribute o name apos) [] [] cpos) (tE b W (mRead T f φ mNil)) := by
  refine weakE (pe_bw0 pa slot hty (hm b fit) ho hbase hline) fun σ H Q ⟨F, ρ, k, h⟩ => ?_
  have := run_read0 hT k h
  rw [fit.K] at this
  exact this
theorem de_m {f : D → List D → Option AV} (fit : Fit X b) (pa : PlainAttrs T) (slot : Slot T name id) (hty : typeOf (.builtin id) = pure (.type "method_descriptor")) (hm : MtD X id f) (ho : PE X o (tE b W φ)) (ha : PA X (e :: es) (tAs b W ψ)) (hT : T ≠ "" := by decide)
    (hbase : attributeBase o name X.env (eval o X.env) = eval o X.env := by rfl)
    (hfew : ((backTo cpos (starEach (e :: es) X.env)).all (fun x => !x.1) && (backToKw cpos (keywordEach [] X.env)).all (fun x => x.1.isSome)
      && decide ((e :: es).length + ([] : List Keyword).length + (if ([] : List Keyword).isEmpty then 0 else 1) < 30)) = true := by rfl)
    (hline : (apos.endLine == cpos.line) = true := by rfl) (hs : starEach (e :: es) X.env = (false, eval e X.env) :: starEach es X.env := by rfl) (hplain : (backTo cpos (starEach es X.env)).any (·.1) = false := by rfl) :
    PE X (.Call (.Attribute o name apos) (e :: es) [] cpos) (tE b W (mRead T f φ ψ)) := by
  refine weakE (pe_bw pa slot hty (hm b fit) ho ha hbase hfew hline hs hplain) fun σ H Q ⟨F, ρ, k, h⟩ => ?_
  have := run_read hT k h
  rw [fit.K] at this
  exact this
theorem de_u0 {f : D → List D → Option (D × D)} (fit : Fit X b) (pa : PlainAttrs T) (slot : Slot T name id) (hty : typeOf (.builtin id) = pure (.type "method_descriptor")) (hm : MuD X id f) (ho : PE X o (tE b W φ)) (hT : T ≠ "" := by decide)
    (hbase : attributeBase o name X.env (eval o X.env) = eval o X.env := by rfl) (hline : (apos.endLine == cpos.line) = true := by rfl) : PE X (.Call (.Attribute o name apos) [] [] cpos) (tE b W (mMut T f φ mNil)) := by
  refine weakE (pe_bw0 pa slot hty (hm b fit) ho hbase hline) fun σ H Q ⟨F, ρ, k, h⟩ => ?_
  have := run_mut0 hT k h
  rw [fit.K] at this
  exact this
theorem de_u {f : D → List D → Option (D × D)} (fit : Fit X b) (pa : PlainAttrs T) (slot : Slot T name id) (hty : typeOf (.builtin id) = pure (.type "method_descriptor")) (hm : MuD X id f) (ho : PE X o (tE b W φ)) (ha : PA X (e :: es) (tAs b W ψ)) (hT : T ≠ "" := by decide)
    (hbase : attributeBase o name X.env (eval o X.env) = eval o X.env := by rfl)
    (hfew : ((backTo cpos (starEach (e :: es) X.env)).all (fun x => !x.1) && (backToKw cpos (keywordEach [] X.env)).all (fun x => x.1.isSome)
      && decide ((e :: es).length + ([] : List Keyword).length + (if ([] : List Keyword).isEmpty then 0 else 1) < 30)) = true := by rfl)
    (hline : (apos.endLine == cpos.line) = true := by rfl) (hs : starEach (e :: es) X.env = (false, eval e X.env) :: starEach es X.env := by rfl) (hplain : (backTo cpos (starEach es X.env)).any (·.1) = false := by rfl) :
    PE X (.Call (.Attribute o name apos) (e :: es) [] cpos) (tE b W (mMut T f φ ψ)) := by
  refine weakE (pe_bw pa slot hty (hm b fit) ho ha hbase hfew hline hs hplain) fun σ H Q ⟨F, ρ, k, h⟩ => ?_
  have := run_mut hT k h
  rw [fit.K] at this
  exact this
end

/-! the methods -/
def sSplit : D → List D → Option AV
  | .str a, [.str c] => if (c.length == 0) = false ∧ a.length + 2 ≤ sizeLine then some (.ow (.lst ((Txt.split a c).map .str))) else none
  | _, _ => none
def sJoinL (a : Str) (l : List D) : Option AV := match strsOf l with
  | some ys => if (ys.map (·.length)).sum + ys.length * a.length ≤ 16777216 then some (.fz (.str (Txt.join a ys))) else none
  | none => none
def sJoin : D → List D → Option AV
  | .str a, [.lst l] => sJoinL a l
  | .str a, [.tup l] => sJoinL a l
  | _, _ => none
def sStarts : D → List D → Option AV
  | .str a, [.str c] => some (.fz (.bl (Txt.startswith a c)))
  | _, _ => none
def sRfind : D → List D → Option AV
  | .str a, [.str c] => some (.fz (.int (Txt.rfind a c)))
  | _, _ => none
def sCount : D → List D → Option AV
  | .str a, [.str c] => some (.fz (.int (Txt.count a c)))
  | _, _ => none
def isPl : D → Bool
  | .non => true
  | .bl _ => true
  | .int _ => true
  | .str _ => true
  | .tup _ => true
  | _ => false
def dGet : D → List D → Option AV
  | .dct kvs, [k] => (keyOf k).map fun kk => .fz ((getK kvs kk).getD .non)
  | .dct kvs, [k, x] => match keyOf k with
    | some kk => match getK kvs kk with
      | some d => some (.fz d)
      | none => if isPl x = true then some (.fz x) else none
    | none => none
  | _, _ => none
def lAppend : D → List D → Option (D × D)
  | .lst l, [x] => if l.length < sizeLine then some (.lst (l ++ [x]), .non) else none
  | _, _ => none
def lPop : D → List D → Option (D × D)
  | .lst l, [] => (l[l.length - 1]?).map fun x => (.lst l.dropLast, x)
  | .lst l, [.int i] => if -(2 ^ 63) ≤ i ∧ i < 2 ^ 63 then (seqIndex? i l.length).bind fun k => (l[k]?).map fun x => (.lst (l.eraseIdx k), x) else none
  | _, _ => none
def lClear : D → List D → Option (D × D)
  | .lst _, [] => some (.lst [], .non)
  | _, _ => none
def lReverse : D → List D → Option (D × D)
  | .lst l, [] => some (.lst l.reverse, .non)
  | _, _ => none
def dPop : D → List D → Option (D × D)
  | .dct kvs, [k] => (keyOf k).bind fun kk => (getK kvs kk).map fun x => (.dct (dropD kvs k), x)
  | _, _ => none
def dClear : D → List D → Option (D × D)
  | .dct _, [] => some (.dct [], .non)
  | _, _ => none
theorem MtR.orD {X : Cx} {id : String} {r r' : V → List V → Hp → VK → Prop} (h : MtR X id r) (h' : MtR X id r') : MtR X id (fun x xs H Q => r x xs H Q ∨ r' x xs H Q) := MtR.or h h'
theorem weakM {X : Cx} {id : String} {r r' : V → List V → Hp → VK → Prop} (h : MtR X id r) (i : ∀ x xs H Q, r' x xs H Q → r x xs H Q) : MtR X id r' := fun pins s σ H x xs v us Q I rx rxs q => h pins s σ H x xs v us Q I rx rxs (i _ _ _ _ q)
section
variable {X : Cx}
theorem md_split : MtD X "str.split" sSplit := by
  intro b fit
  refine weakM mt_split fun x xs H Q ⟨F, σ', ρ, d, ds, ok, r1, r2, g⟩ => ?_
  unfold sSplit at g
  split at g
  · split at g
    · rename_i hz
      obtain ⟨u, rfl, q⟩ := r2.one
      exact ⟨_, _, rStr r1, by rw [rStr q], hz.1, hz.2, gLst ok g (RepL.ofStrs _)⟩
    · exact g.elim
  · exact g.elim
theorem md_join : MtD X "str.join" sJoin := by
  intro b fit
  refine weakM mt_join fun x xs H Q ⟨F, σ', ρ, d, ds, ok, r1, r2, g⟩ => ?_
  unfold sJoin at g
  split at g
  · obtain ⟨u, rfl, q⟩ := r2.one
    obtain ⟨a, ys, rfl, e1, l1⟩ := RepD.lst ok.sub q
    unfold sJoinL at g
    split at g
    · rename_i zs ez
      split at g
      · rename_i hz
        have := l1.strs ez
        subst this
        exact ⟨_, a, zs, rStr r1, rfl, .inl (SqL.of e1), hz, gStr ok g⟩
      · exact g.elim
    · exact g.elim
  · obtain ⟨u, rfl, q⟩ := r2.one
    obtain ⟨a, ys, rfl, e1, l1⟩ := RepD.tup ok.sub q
    rw [fit.K] at e1
    unfold sJoinL at g
    split at g
    · rename_i zs ez
      split at g
      · rename_i hz
        have := l1.strs ez
        subst this
        exact ⟨_, a, zs, rStr r1, rfl, .inr e1, hz, gStr ok g⟩
      · exact g.elim
    · exact g.elim
  · exact g.elim
theorem md_starts : MtD X "str.startswith" sStarts := by
  intro b fit
  refine weakM mt_startswith fun x xs H Q ⟨F, σ', ρ, d, ds, ok, r1, r2, g⟩ => ?_
  unfold sStarts at g
  split at g
  · obtain ⟨u, rfl, q⟩ := r2.one
    exact ⟨_, _, rStr r1, by rw [rStr q], gBl ok g⟩
  · exact g.elim
theorem md_count : MtD X "str.count" sCount := by
  intro b fit
  refine weakM mt_count fun x xs H Q ⟨F, σ', ρ, d, ds, ok, r1, r2, g⟩ => ?_
  unfold sCount at g
  split at g
  · obtain ⟨u, rfl, q⟩ := r2.one
    exact ⟨_, _, rStr r1, by rw [rStr q], gInt ok g⟩
  · exact g.elim
theorem mt_dget (hu : X.A.units + 1 < cLine) : MtR X "dict.get" (fun x xs H Q => ∃ a y o, x = .ref a ∧ DGet H a y o ∧ ((xs = [y] ∧ Q (o.getD .non) H) ∨ ∃ d, xs = [y, d] ∧ Q (o.getD d) H)) := by
  intro pins s σ H x xs v us Q I rx rxs ⟨a, y, o, ex, g, q⟩
  subst ex
  cases rx
  rcases q with ⟨rfl, q⟩ | ⟨d, rfl, q⟩
  · obtain ⟨u, rfl, ru⟩ := vals1 rxs
    exact d_get1 hu I g ru fun w' s3 I3 rw' => ⟨_, H, I3, rw', q⟩
  · obtain ⟨u, u2, rfl, ru, ru2⟩ := vals2 rxs
    exact d_get2 hu I g ru ru2 fun w' s3 I3 rw' => ⟨_, H, I3, rw', q⟩
theorem md_get (hu : X.A.units + 1 < cLine) : MtD X "dict.get" dGet := by
  intro b fit
  refine weakM (mt_dget hu) fun x xs H Q ⟨F, σ', ρ, d, ds, ok, r1, r2, g⟩ => ?_
  unfold dGet at g
  split at g
  · rename_i kvs k
    obtain ⟨u, rfl, q⟩ := r2.one
    obtain ⟨a, hk, rfl, e1, l1⟩ := RepD.dct ok.sub r1
    cases ek : keyOf k with
    | none => rw [ek] at g; exact g.elim
    | some kk =>
      rw [ek] at g
      have ex := keyOf_rd q ek
      subst ex
      have hv := RepK.val kk l1
      refine ⟨a, _, valV hk kk, rfl, .inl ⟨hk, kk, e1, rfl, rfl⟩, .inl ⟨rfl, ?_⟩⟩
      change Gives b ρ σ' F (some (.fz ((getK kvs kk).getD .non))) Q at g
      cases eg : getK kvs kk with
      | none => rw [eg] at hv g; rw [hv]; exact gNon ok g
      | some d =>
        rw [eg] at hv g
        obtain ⟨v, ev, rv⟩ := hv
        rw [ev]; exact gFz ok g rv
  · rename_i kvs k x
    obtain ⟨u, u2, rfl, q, q2⟩ := r2.two
    obtain ⟨a, hk, rfl, e1, l1⟩ := RepD.dct ok.sub r1
    cases ek : keyOf k with
    | none => simp only [ek] at g; exact g.elim
    | some kk =>
      simp only [ek] at g
      have ex := keyOf_rd q ek
      subst ex
      have hv := RepK.val kk l1
      refine ⟨a, _, valV hk kk, rfl, .inl ⟨hk, kk, e1, rfl, rfl⟩, .inr ⟨u2, rfl, ?_⟩⟩
      cases eg : getK kvs kk with
      | none =>
        rw [eg] at hv; simp only [eg] at g; rw [hv]
        have fzx : ∀ {y : D}, Rd1 b F H y u2 → isPl y = true → Rep b.K b.mg F y u2 := fun {y} r hy => by
          rcases r with r | ⟨_, _, oa⟩
          · exact r
          · cases y <;> first
              | exact oa.elim
              | cases hy
        split at g
        · rename_i hy
          exact gFz ok g (fzx q2 hy)
        · exact g.elim
      | some d =>
        rw [eg] at hv; simp only [eg] at g
        obtain ⟨v, ev, rv⟩ := hv
        rw [ev]; exact gFz ok g rv
  · exact g.elim
theorem mu_append : MuD X "list.append" lAppend := by
  intro b fit
  refine weakM mt_append fun x xs H Q ⟨F, ds, a, d, ex, sb, n, oa, rs, g⟩ => ?_
  unfold lAppend at g
  split at g
  · rename_i d' r' h
    split at h
    · rename_i l y
      split at h
      · rename_i hz
        cases h
        obtain ⟨ys, e1, l1⟩ := oa
        unfold RepL at rs
        obtain ⟨w, t, rfl, q, rs⟩ := rs
        unfold RepL at rs
        subst rs
        refine ⟨a, ys, w, ex, rfl, e1, by rw [← l1.len]; exact hz, g _ _ ⟨_, upd_same, l1.snoc q⟩ (by unfold Rep; rfl)⟩
      · cases h
    · cases h
  · exact g.elim
theorem RepL.dropLast {K : PySem.W.Frag} {mg : Str → Option Value} {F : Hp} {ds : List D} {vs : List V} (r : RepL K mg F ds vs) : RepL K mg F ds.dropLast vs.dropLast := by
  rw [List.dropLast_eq_take, List.dropLast_eq_take, r.len]
  exact r.take _
theorem RepL.eraseIdx {K : PySem.W.Frag} {mg : Str → Option Value} {F : Hp} : ∀ (i : Nat) {ds : List D} {vs : List V}, RepL K mg F ds vs → RepL K mg F (ds.eraseIdx i) (vs.eraseIdx i)
  | _, [], _, r => by unfold RepL at r; subst r; show RepL K mg F [] []; unfold RepL; rfl
  | 0, d :: ds, _, r => by
    unfold RepL at r
    obtain ⟨v, s, rfl, _, l⟩ := r
    exact l
  | i + 1, d :: ds, _, r => by
    unfold RepL at r
    obtain ⟨v, s, rfl, q, l⟩ := r
    show RepL K mg F (d :: ds.eraseIdx i) (v :: s.eraseIdx i)
    unfold RepL
    exact ⟨v, _, rfl, q, RepL.eraseIdx i l⟩
theorem RepL.reverse {K : PySem.W.Frag} {mg : Str → Option Value} {F : Hp} : ∀ {ds : List D} {vs : List V}, RepL K mg F ds vs → RepL K mg F ds.reverse vs.reverse
  | [], _, r => by unfold RepL at r; subst r; show RepL K mg F [] []; unfold RepL; rfl
  | d :: ds, _, r => by
    unfold RepL at r
    obtain ⟨v, s, rfl, q, l⟩ := r
    rw [List.reverse_cons, List.reverse_cons]
    exact (RepL.reverse l).snoc q
theorem mu_pop : MuD X "list.pop" lPop := by
  intro b fit
  refine weakM (MtR.orD mt_pop mt_popAt) fun x xs H Q ⟨F, ds, a, d, ex, sb, n, oa, rs, g⟩ => ?_
  unfold lPop at g
  split at g
  · rename_i d' r' h
    split at h
    · rename_i l
      obtain ⟨ys, e1, l1⟩ := oa
      unfold RepL at rs
      subst rs
      cases e : l[l.length - 1]? with
      | none => rw [e] at h; cases h
      | some y =>
        rw [e] at h; cases h
        obtain ⟨w, ew, rw'⟩ := l1.get e
        exact .inl ⟨a, ys, w, ex, rfl, e1, by rw [← l1.len]; exact ew, g _ _ ⟨_, upd_same, l1.dropLast⟩ rw'⟩
    · rename_i l i
      split at h
      · rename_i hi
        obtain ⟨ys, e1, l1⟩ := oa
        unfold RepL at rs
        obtain ⟨w, t, rfl, q, rs⟩ := rs
        unfold RepL at rs
        subst rs
        unfold Rep at q
        subst q
        cases e : seqIndex? i l.length with
        | none => rw [e] at h; cases h
        | some m =>
          rw [e] at h
          change (l[m]?).map (fun x => (D.lst (l.eraseIdx m), x)) = some (d', r') at h
          cases e2 : l[m]? with
          | none => rw [e2] at h; cases h
          | some y =>
            rw [e2] at h; cases h
            obtain ⟨w, ew, rw'⟩ := l1.get e2
            exact .inr ⟨a, ys, i, m, w, ex, rfl, e1, hi.1, hi.2, by rw [← l1.len]; exact e, ew, g _ _ ⟨_, upd_same, l1.eraseIdx m⟩ rw'⟩
      · cases h
    · cases h
  · exact g.elim
theorem mu_clear : MuD X "list.clear" lClear := by
  intro b fit
  refine weakM mt_clear fun x xs H Q ⟨F, ds, a, d, ex, sb, n, oa, rs, g⟩ => ?_
  unfold lClear at g
  split at g
  · rename_i d' r' h
    split at h
    · cases h
      obtain ⟨ys, e1, l1⟩ := oa
      unfold RepL at rs
      subst rs
      exact ⟨a, ys, ex, rfl, e1, g _ _ ⟨_, upd_same, by unfold RepL; rfl⟩ (by unfold Rep; rfl)⟩
    · cases h
  · exact g.elim
theorem mu_reverse : MuD X "list.reverse" lReverse := by
  intro b fit
  refine weakM mt_reverse fun x xs H Q ⟨F, ds, a, d, ex, sb, n, oa, rs, g⟩ => ?_
  unfold lReverse at g
  split at g
  · rename_i d' r' h
    split at h
    · cases h
      obtain ⟨ys, e1, l1⟩ := oa
      unfold RepL at rs
      subst rs
      exact ⟨a, ys, ex, rfl, e1, g _ _ ⟨_, upd_same, l1.reverse⟩ (by unfold Rep; rfl)⟩
    · cases h
  · exact g.elim
theorem mu_dclear : MuD X "dict.clear" dClear := by
  intro b fit
  refine weakM mtd_clear fun x xs H Q ⟨F, ds, a, d, ex, sb, n, oa, rs, g⟩ => ?_
  unfold dClear at g
  split at g
  · rename_i d' r' h
    split at h
    · cases h
      obtain ⟨ys, e1, l1⟩ := oa
      unfold RepL at rs
      subst rs
      exact ⟨a, ys, ex, rfl, e1, g _ _ ⟨_, upd_same, by unfold RepK; rfl⟩ (by unfold Rep; rfl)⟩
    · cases h
  · exact g.elim
theorem mt_dpop : MtR X "dict.pop" (fun x xs H Q => ∃ a kvs k v, x = .ref a ∧ xs = [kV k] ∧ H a = some (.dK kvs) ∧ valV kvs k = some v ∧ Q v (upd H a (.dK (dropK kvs k)))) := by
  intro pins s σ H x xs v us Q I rx rxs ⟨a, kvs, k, w, ex, exs, ea, l, q⟩
  subst ex exs
  cases rx
  obtain ⟨u, rfl, ru⟩ := vals1 rxs
  exact d_pop I ea ru l (.inl rfl) fun w' s3 I3 rw' => ⟨w, _, I3, rw', q⟩
theorem mu_dpop : MuD X "dict.pop" dPop := by
  intro b fit
  refine weakM mt_dpop fun x xs H Q ⟨F, ds, a, d, ex, sb, n, oa, rs, g⟩ => ?_
  unfold dPop at g
  split at g
  · rename_i d' r' h
    split at h
    · rename_i kvs k
      cases ek : keyOf k with
      | none => rw [ek] at h; cases h
      | some kk =>
        rw [ek] at h
        change (getK kvs kk).map (fun x => (D.dct (dropD kvs k), x)) = some (d', r') at h
        obtain ⟨ys, e1, l1⟩ := oa
        unfold RepL at rs
        obtain ⟨w, t, rfl, q, rs⟩ := rs
        unfold RepL at rs
        subst rs
        have ek' := keyOf_rd (H := H) (.inl q) ek
        subst ek'
        have hv := RepK.val kk l1
        cases eg : getK kvs kk with
        | none => rw [eg] at h; cases h
        | some y =>
          rw [eg] at h hv
          cases h
          obtain ⟨v, ev, rv⟩ := hv
          exact ⟨a, ys, kk, v, ex, rfl, e1, ev, g _ _ ⟨_, upd_same, l1.drop ek⟩ rv⟩
    · cases h
  · exact g.elim
end
end DL

namespace DL
open PySem PySem.Spec L2

/-! ### targets, whatever they do -/
def ThenU {α : Type} (b : Bs) (W : WX) (F : Hp) (r : R α) (Q : α → Env → St → Hp → Hp → Prop) : Prop := match r with
  | .ok a ρ' => ∀ σ' F' H', Ok b ρ' F' H' σ' → Same F F' → Q a ρ' σ' F' H'
  | .ex e ρ' => ∀ c dd σ' F' H', Ok b ρ' F' H' σ' → Same F F' → ExR b F' e c dd → W c dd σ' H'
  | .no => False
section
variable {α β : Type} {b : Bs} {W : WX} {σ : St} {ρ : DL.Env} {F F1 H : Hp}
theorem ThenU.later {r : R α} {Q : α → DL.Env → St → Hp → Hp → Prop} (h : ThenU b W F r Q) (s : Same F F1) : ThenU b W F1 r Q := by
  cases r with
  | no => exact h
  | ex x ρ' => exact fun c dd σ' F' H' k s' => h c dd σ' F' H' k (s.trans s')
  | ok a ρ' => exact fun σ' F' H' k s' => h σ' F' H' k (s.trans s')
theorem ThenU.imp {r : R α} {Q Q' : α → DL.Env → St → Hp → Hp → Prop} (h : ThenU b W F r Q) (i : ∀ a ρ' σ' F' H', Ok b ρ' F' H' σ' → Same F F' → Q a ρ' σ' F' H' → Q' a ρ' σ' F' H') : ThenU b W F r Q' := by
  cases r with
  | no => exact h
  | ex x ρ' => exact h
  | ok a ρ' => exact fun σ' F' H' k s => i a ρ' σ' F' H' k s (h σ' F' H' k s)
/-- a store first, then the rest -/
theorem ThenU.bndU {m : M α} {f : α → M β} {Q : β → DL.Env → St → Hp → Hp → Prop} (h : ThenU b W F (m.bnd f ρ) Q) : ThenU b W F (m ρ) fun a ρ' σ' F' H' => Ok b ρ' F' H' σ' ∧ ThenU b W F' (f a ρ') Q := by
  unfold M.bnd at h
  cases e : m ρ with
  | no => rw [e] at h; exact h
  | ex x ρ' =>
    rw [e] at h
    exact h
  | ok a ρ' =>
    rw [e] at h
    exact fun σ' F' H' k s => ⟨k, ThenU.later (show ThenU b W F (f a ρ') Q from h) s⟩
/-- an expression, then the rest of a store -/
theorem ThenU.bnd {m : M α} {f : α → M β} {Q : β → DL.Env → St → Hp → Hp → Prop} (h : ThenU b W F (m.bnd f ρ) Q) : After b W σ F (m ρ) fun a ρ' F' H' => Ok b ρ' F' H' σ ∧ ThenU b W F' (f a ρ') Q := by
  unfold M.bnd at h
  cases e : m ρ with
  | no => rw [e] at h; exact h
  | ex x ρ' =>
    rw [e] at h
    exact fun c dd F' H' k s q => h c dd σ F' H' k s q
  | ok a ρ' =>
    rw [e] at h
    exact fun F' H' k s => ⟨k, ThenU.later (show ThenU b W F (f a ρ') Q from h) s⟩
theorem Then.bndU {m : M α} {f : α → M Ctl} {D : Ends} (h : Then b W F (m.bnd f ρ) D) : ThenU b W F (m ρ) fun a ρ' σ' F' H' => Ok b ρ' F' H' σ' ∧ Then b W F' (f a ρ') D := by
  unfold M.bnd at h
  cases e : m ρ with
  | no => rw [e] at h; exact h
  | ex x ρ' =>
    rw [e] at h
    exact h
  | ok a ρ' =>
    rw [e] at h
    exact fun σ' F' H' k s => ⟨k, Then.later (show Then b W F (f a ρ') D from h) s⟩
theorem ThenU.read {av : AV} {v : V} {f : D → M α} {Q : α → DL.Env → St → Hp → Hp → Prop} (k : Ok b ρ F H σ) (r : RepA b F H σ ρ av v) (h : ThenU b W F ((rd av).bnd f ρ) Q) : ∃ d, Rd1 b F H d v ∧ ThenU b W F (f d ρ) Q := by
  unfold M.bnd at h
  cases e : rd av ρ with
  | no => rw [e] at h; exact h.elim
  | ex x ρ' =>
    cases av with
    | fz d => cases e
    | ow d => cases e
    | sl i =>
      dsimp only [rd] at e
      split at e <;> cases e
  | ok d ρ' =>
    rw [e] at h
    obtain ⟨rfl, q⟩ := k.read r e
    exact ⟨d, q, h⟩
theorem ThenU.froze {av : AV} {v : V} {f : D → M α} {Q : α → DL.Env → St → Hp → Hp → Prop} (k : Ok b ρ F H σ) (r : RepA b F H σ ρ av v) (h : ThenU b W F ((frz av).bnd f ρ) Q) :
    ∃ d ρ2 F2, Ok b ρ2 F2 H σ ∧ Same F F2 ∧ Rep b.K b.mg F2 d v ∧ ThenU b W F2 (f d ρ2) Q := by
  unfold M.bnd at h
  cases e1 : frz av ρ with
  | no => rw [e1] at h; exact h.elim
  | ex x ρ2 =>
    cases av with
    | fz d => cases e1
    | ow d => cases e1
    | sl i =>
      dsimp only [frz] at e1
      split at e1 <;> cases e1
  | ok d ρ2 =>
    rw [e1] at h
    obtain ⟨F2, k2, s2, q2⟩ := k.froze r e1
    exact ⟨d, ρ2, F2, k2, s2, q2, ThenU.later (show ThenU b W F (f d ρ2) Q from h) s2⟩
end
def tGM (b : Bs) (W : WX) (ψ : D → M Unit) : TG := fun v σ H Q => ∃ F ρ d, Ok b ρ F H σ ∧ Rep b.K b.mg F d v ∧ ThenU b W F (ψ d ρ) fun _ _ σ' _ H' => Q σ' H'
def tGMs (b : Bs) (W : WX) (ψ : List D → M Unit) : TGs := fun vs σ H Q => ∃ F ρ ds, Ok b ρ F H σ ∧ RepL b.K b.mg F ds vs ∧ ThenU b W F (ψ ds ρ) fun _ _ σ' _ H' => Q σ' H'
def gmNil : List D → M Unit
  | [] => M.ret ()
  | _ => M.stuck
def gmCons (ψ : D → M Unit) (χ : List D → M Unit) : List D → M Unit
  | d :: ds => (ψ d).bnd fun _ => χ ds
  | [] => M.stuck
def gmTup (n : Nat) (χ : List D → M Unit) : D → M Unit
  | .tup ds => if ds.length = n then χ ds else M.stuck
  | _ => M.stuck
/-- o[k] = d where a slot holds o -/
def setD : D → D → D → Option D
  | .lst l, .int i, x => (ixN l.length i).map fun j => .lst (l.set j x)
  | .dct kvs, k, x => if (keyOf k).isSome ∧ kvs.length < sizeLine then some (.dct (putD kvs k x)) else none
  | _, _, _ => none
def putAt (av : AV) (k x : D) : M Unit := match av with
  | .sl i => fun ρ => match ρ[i]? with
    | some s => if s.held then match s.data? with
        | some d => match setD d k x with
          | some d' => .ok () (ρ.set i (s.put d'))
          | none => .no
        | none => .no
      else .no
    | none => .no
  | _ => M.stuck
def gmSub (φ ψ : M AV) : D → M Unit := fun x => φ.bnd fun a => ψ.bnd fun i => (rd (stab i)).bnd fun k => putAt (stab a) k x
def mAsgM (φ : M AV) (ψ : D → M Unit) : M Ctl := φ.bnd fun av => (frz av).bnd fun d => (ψ d).bnd fun _ => M.ret .nx
section
variable {X : Cx} {b : Bs} {W : WX} {pos : Pos}
theorem dgm_name {i : Nat} {x : Str} (hN : X.N.Nodup) (hi : X.N[i]? = some x) (hx : Loc X.env.scope x) (hf : X.fn x = true ∨ X.env.scope.names.lookup x = some .local := by first | exact .inl rfl | exact .inr rfl | assumption) : PG X (.Name x pos) (tGM b W (setFz i)) := by
  refine weakG (pg_name hN hi hx hf) fun v σ H Q ⟨F, ρ, d, k, r, h⟩ => ?_
  cases e : setFz i d ρ with
  | no => rw [e] at h; exact h.elim
  | ex x ρ' =>
    unfold setFz at e
    split at e
    · split at e <;> cases e
    · cases e
  | ok u ρ' =>
    rw [e] at h
    exact h _ F H (setFz_ok k r e) (Same.refl _)
theorem dgm_nil : PGs X [] (tGMs b W gmNil) := by
  refine weakGs pgs_nil fun v σ H Q ⟨F, ρ, ds, k, r, h⟩ => ?_
  cases ds with
  | nil =>
    unfold RepL at r
    exact ⟨r, h σ F H k (Same.refl _)⟩
  | cons d ds => exact h.elim
theorem dgm_cons {e : Expr} {es : List Expr} {ψ : D → M Unit} {χ : List D → M Unit} (h1 : PG X e (tGM b W ψ)) (h2 : PGs X es (tGMs b W χ)) (hs : (assignEach (e :: es) X.env).map (·.2) = assign e X.env :: (assignEach es X.env).map (·.2) := by rfl) : PGs X (e :: es) (tGMs b W (gmCons ψ χ)) := by
  refine weakGs (pgs_cons h1 h2 hs) fun v σ H Q ⟨F, ρ, ds, k, r, h⟩ => ?_
  cases ds with
  | nil => exact h.elim
  | cons d ds =>
    unfold RepL at r
    obtain ⟨v, vs, rfl, q1, q2⟩ := r
    exact ⟨v, vs, rfl, F, ρ, d, k, q1, (ThenU.bndU h).imp fun _ ρ' σ' F' H' _ s' ⟨k', h'⟩ => ⟨F', ρ', ds, k', q2.mono s', h'⟩⟩
theorem dgm_tup {es : List Expr} {j : Nat} {χ : List D → M Unit} {n : Nat} (fit : Fit X b) (hc : X.calm = true) (h : PGs X es (tGMs b W χ)) (hn : (assignEach es X.env).length = n := by rfl) (hst : (assignEach es X.env).findIdx? (·.1) = none := by rfl) :
    PG X (.Tuple es j pos) (tGM b W (gmTup n χ)) := by
  refine weakG (pg_tup hc h hn hst) fun v σ H Q ⟨F, ρ, d, k, r, h⟩ => ?_
  unfold gmTup at h
  split at h
  · split at h
    · rename_i hl
      unfold Rep at r
      obtain ⟨a, xs, rfl, q, l⟩ := r
      rw [fit.K] at q
      exact ⟨a, xs, rfl, k.sub.sqT q, l.len.symm.trans hl, F, ρ, _, k, l, h⟩
    · exact h.elim
  · exact h.elim
theorem weakPSet {t t' : TSet} (h : PSet X t) (i : ∀ o k v H Q, t' o k v H Q → t o k v H Q) : PSet X t' := fun pins s σ H o k v ov iv u Q I ro ri rv q => h pins s σ H o k v ov iv u Q I ro ri rv (i _ _ _ _ _ q)
theorem PSet.or {t t' : TSet} (h : PSet X t) (h' : PSet X t') : PSet X (fun o k v H Q => t o k v H Q ∨ t' o k v H Q) := by
  intro pins s σ H o k v ov iv u Q I ro ri rv q
  rcases q with q | q
  · exact h pins s σ H o k v ov iv u Q I ro ri rv q
  · exact h' pins s σ H o k v ov iv u Q I ro ri rv q
def rSetX : TSet := fun o i v H Q => rSetL o i v H Q ∨ rSetD o i v H Q
theorem RepL.setIx {K : PySem.W.Frag} {mg : Str → Option Value} {F : Hp} {d : D} {v : V} (rv : Rep K mg F d v) : ∀ (j : Nat) {ds : List D} {vs : List V}, RepL K mg F ds vs → RepL K mg F (ds.set j d) (vs.set j v)
  | _, [], _, r => by unfold RepL at r; subst r; show RepL K mg F [] []; unfold RepL; rfl
  | 0, c :: ds, _, r => by
    unfold RepL at r
    obtain ⟨u, s, rfl, _, l⟩ := r
    show RepL K mg F (d :: ds) (v :: s)
    unfold RepL
    exact ⟨v, s, rfl, rv, l⟩
  | j + 1, c :: ds, _, r => by
    unfold RepL at r
    obtain ⟨u, s, rfl, q, l⟩ := r
    show RepL K mg F (c :: ds.set j d) (u :: s.set j v)
    unfold RepL
    exact ⟨u, _, rfl, q, RepL.setIx rv j l⟩
/-- the store itself -/
theorem set_data {F H : Hp} {a : Addr} {c c' k x : D} {y v : V} {Q : Hp → Prop} (sb : Sub F H) (oa : OwnAt b.K b.mg F H a c) (rk : RepD b.K b.mg F H k y) (rx : Rep b.K b.mg F x v) (h : setD c k x = some c') (q : ∀ o', OwnAt b.K b.mg F (upd H a o') a c' → Q (upd H a o')) : rSetX (.ref a) y v H Q := by
  unfold setD at h
  split at h
  · rename_i l i
    obtain ⟨xs, e1, l1⟩ := oa
    cases e : ixN l.length i with
    | none => rw [e] at h; cases h
    | some j =>
      rw [e] at h; cases h
      have : y = .int i := (RepD.flat (d := .int i) rfl rk).1
      exact .inl ⟨a, xs, i, j, rfl, this, e1, by rw [← l1.len]; exact e, q _ ⟨_, upd_same, l1.setIx rx j⟩⟩
  · split at h
    · rename_i hk
      cases h
      obtain ⟨hs, hz⟩ := hk
      obtain ⟨kk, ek⟩ := Option.isSome_iff_exists.mp hs
      obtain ⟨hk, e1, l1⟩ := oa
      have := keyOf_rd rk ek
      subst this
      exact .inr ⟨a, _, rfl, DPut.k e1 (by rw [← l1.len]; exact hz), q _ ⟨_, upd_same, l1.put ek rx⟩⟩
    · cases h
  · cases h
theorem ThenU.put {σ : St} {F H : Hp} {ρ : DL.Env} {av : AV} {o y v : V} {k x : D} {Q : St → Hp → Prop} (ok : Ok b ρ F H σ) (r : RepA b F H σ ρ (stab av) o) (rk : Rd1 b F H k y) (rx : Rep b.K b.mg F x v)
    (h : ThenU b W F (putAt (stab av) k x ρ) fun _ _ σ' _ H' => Q σ' H') : rSetX o y v H fun H' => Q σ H' := by
  cases av with
  | fz d => exact h.elim
  | ow d => exact h.elim
  | sl i =>
    have r : σ[i]? = some (some o) := r
    dsimp only [stab, putAt] at h
    cases e : ρ[i]? with
    | none => rw [e] at h; exact h.elim
    | some s =>
      rw [e] at h
      dsimp only at h
      cases hh : s.held with
      | false => rw [hh] at h; exact h.elim
      | true =>
        rw [hh] at h
        simp only [if_true] at h
        have z := ok.slot i s e
        rw [r] at z
        have go : ∀ d a, o = .ref a → s.data? = some d → OwnAt b.K b.mg F H a d → rSetX o y v H fun H' => Q σ H' := fun d a ex hd oa => by
          subst ex
          rw [hd] at h
          dsimp only at h
          cases ef : setD d k x with
          | none => rw [ef] at h; exact h.elim
          | some d' =>
            rw [ef] at h
            exact set_data ok.sub oa rk rx ef fun o' oa' => h σ F _ (ok.mut e hh r oa') (Same.refl _)
        cases s with
        | xn d => cases hh
        | un => cases hh
        | fz d => cases hh
        | ow d => obtain ⟨a, ea, n, _, oa⟩ := z; exact go d a (Option.some.inj ea) rfl oa
        | bo d => obtain ⟨a, ea, n, _, oa⟩ := z; exact go d a (Option.some.inj ea) rfl oa
theorem runUE {α : Type} {φ : M AV} {f : AV → M α} {σ : St} {H F : Hp} {ρ : DL.Env} {Q : α → DL.Env → St → Hp → Hp → Prop} {R : V → Hp → Prop} (k : Ok b ρ F H σ) (h : ThenU b W F (φ.bnd f ρ) Q)
    (i : ∀ av v ρ1 F1 H1, Ok b ρ1 F1 H1 σ → Same F F1 → RepA b F1 H1 σ ρ1 av v → ThenU b W F1 (f av ρ1) Q → R v H1) : tE b W φ σ H R :=
  ⟨F, ρ, k, (ThenU.bnd h).imp fun av ρ' F' H' k' s q v r => i av v ρ' F' H' k' s r q.2⟩
theorem dgm_sub {o i : Expr} {φ ψ : M AV} (fit : Fit X b) (hu : X.A.units + 64 < cLine) (ho : PE X o (tE b W φ)) (hi : PE X i (tE b W ψ))
    (ha : ∀ v, assign (.Subscript o i pos) X.env v = (do
      let ov ← holding [v] (eval o X.env)
      let iv ← holding [v, ov] (eval i X.env)
      standAt pos
      holding [v, ov, iv] (setItem ov iv v)
      release [v, ov, iv] []) := by intro _; rfl) : PG X (.Subscript o i pos) (tGM b W (gmSub φ ψ)) := by
  refine weakG (pg_sub (t := rSetX) ho hi (PSet.or set_list (set_dict (by omega))) ha) fun v σ H Q ⟨F, ρ, d, k, r, h⟩ => ?_
  refine runUE k h fun av x ρ1 F1 H1 k1 s1 r1 h1 => ?_
  refine runUE k1 h1 fun iv y ρ2 F2 H2 k2 s2 r2 h2 => ?_
  obtain ⟨F3, k3, s3, r3⟩ := k2.stab r2
  obtain ⟨kd, q3, h3⟩ := ThenU.read k3 r3 (h2.later s3)
  -- the object: stabbed at the time of its reading
  cases av with
  | fz d0 => exact h3.elim
  | ow d0 => exact h3.elim
  | sl j => exact ThenU.put (av := .sl j) k3 r1 q3 (r.mono (s1.trans (s2.trans s3))) h3
theorem ds_asgM {tg e : Expr} {φ : M AV} {ψ : D → M Unit} (he : PE X e (tE b W φ)) (hg : PG X tg (tGM b W ψ)) (hs : swapsWithSole [tg] e pos.line X.env = pure false := by rfl) (hw : swappedStores [tg] e X.env = pure none := by rfl)
    (h1 : (assignEach [tg] X.env).map (·.2) = [assign tg X.env] := by rfl) : PS X (.Assign [tg] e pos) (tS b W (mAsgM φ ψ)) := by
  refine weakS (ps_asg he hg hs hw h1) fun D σ H ⟨F, ρ, k, h⟩ => ?_
  refine runSE k h fun av v ρ1 F1 H1 k1 s1 r1 h1 => ?_
  obtain ⟨d, ρ2, F2, k2, s2, q2, h2⟩ := Then.froze k1 r1 h1
  exact ⟨F2, ρ2, d, k2, q2, (Then.bndU h2).imp fun _ ρ' σ' F' H' _ _ ⟨k', h'⟩ => h' σ' F' H' k' (Same.refl _)⟩
end

/-- an object of nobody is changed -/
theorem Ok.poke {b : Bs} {σ : St} {ρ : DL.Env} {F H : Hp} {p : Addr} {o : HO} (k : Ok b ρ F H σ) (h0 : b.H_0 p = none) (hF : F p = none) (ap : Apart ρ σ p) (np : ∀ q ∈ b.P, q.1 ≠ p) : Ok b ρ F (upd H p o) σ := by
  refine ⟨fun x u ex => ?_, fun c u e0 hb => ?_, k.ext, k.new, k.len, fun j t ej => ?_, k.sep, k.bor, fun q hq => ?_⟩
  · rw [upd_ne (ne_of_none ex hF)]; exact k.sub x u ex
  · rw [upd_ne (ne_of_none e0 h0)]; exact k.old c u e0 hb
  · have w := k.slot j t ej
    cases t with
    | xn d => exact w
    | un => trivial
    | fz d => exact w
    | ow d =>
      obtain ⟨c, ec, n, n0, oc⟩ := w
      exact ⟨c, ec, n, n0, oc.mono (Same.refl _) fun u q => by rw [upd_ne (fun z => ap j _ ej rfl (by rw [← z]; exact getD_ref ec))]; exact q⟩
    | bo d =>
      obtain ⟨c, ec, n, n0, oc⟩ := w
      exact ⟨c, ec, n, n0, oc.mono (Same.refl _) fun u q => by rw [upd_ne (fun z => ap j _ ej rfl (by rw [← z]; exact getD_ref ec))]; exact q⟩
  · obtain ⟨h1, h2, h3⟩ := k.prot q hq
    exact ⟨by rw [upd_ne (np q hq)]; exact h1, h2, h3⟩
/-- stores into names, from the left -/
def isSl : AV → Bool
  | .sl _ => true
  | _ => false
def mAsgs : List Nat → List AV → M Unit
  | [], [] => M.ret ()
  | i :: is, a :: as => if isSl a then M.stuck else (asg i a).bnd fun _ => mAsgs is as
  | _, _ => M.stuck
def setAll : List Nat → List V → St → St
  | i :: is, v :: vs, σ => setAll is vs (σ.set i (some v))
  | _, _, σ => σ
section
variable {X : Cx} {b : Bs} {W : WX} {pos : Pos}
theorem asg_run {ρ ρ' : DL.Env} {F H : Hp} {σ : St} {i : Nat} {av : AV} {v : V} (k : Ok b ρ F H σ) (r : RepA b F H σ ρ av v) (hs : isSl av = false) (h : asg i av ρ = .ok () ρ') : Ok b ρ' F H (σ.set i (some v)) ∧ ∃ s', ρ' = ρ.set i s' ∧ (s'.held = true → ∃ d, av = .ow d) := by
  cases av with
  | sl j => cases hs
  | fz d =>
    refine ⟨setFz_ok k r h, .fz d, ?_, fun q => by cases q⟩
    have h : setFz i d ρ = .ok () ρ' := h
    unfold setFz at h
    split at h
    · split at h
      · cases h
      · cases h; rfl
    · cases h
  | ow d =>
    obtain ⟨a, rfl, n, n0, oa, ap⟩ := r
    dsimp only [DL.asg] at h
    cases e : ρ[i]? with
    | none => rw [e] at h; cases h
    | some s =>
      rw [e] at h
      cases hb : isBo s with
      | true => simp only [hb] at h; cases h
      | false =>
        simp only [hb] at h
        cases h
        refine ⟨k.setSlot (s' := .ow d) e hb rfl ⟨a, rfl, n, n0, oa⟩ (fun _ c ec => ?_), .ow d, rfl, fun _ => ⟨d, rfl⟩⟩
        cases ec
        exact ap
theorem asgs_step {i : Nat} {av : AV} {is : List Nat} {avs : List AV} {ρ : DL.Env} {r : R Unit} (h : mAsgs (i :: is) (av :: avs) ρ = r) (hr : r ≠ .no) : isSl av = false ∧ ((asg i av).bnd fun _ => mAsgs is avs) ρ = r := by
  unfold mAsgs at h
  cases e : isSl av with
  | true => rw [if_pos e] at h; exact absurd h.symm hr
  | false => rw [if_neg (by rw [e]; exact Bool.false_ne_true)] at h; exact ⟨rfl, h⟩
theorem asgs_nosl : ∀ {is : List Nat} {avs : List AV} {ρ ρ' : DL.Env}, mAsgs is avs ρ = .ok () ρ' → ∀ a ∈ avs, isSl a = false
  | [], [], _, _, _, a, h => by cases h
  | [], _ :: _, _, _, h, _, _ => by cases h
  | _ :: _, [], _, _, h, _, _ => by cases h
  | i :: is, av :: avs, ρ, ρ', h, a, ha => by
    obtain ⟨hs, h⟩ := asgs_step h (fun z => by cases z)
    rcases List.mem_cons.mp ha with rfl | ha
    · exact hs
    · obtain ⟨u, ρ1, _, e2⟩ := bnd_inv h
      exact asgs_nosl e2 a ha
theorem asgs_run : ∀ {is : List Nat} {avs : List AV} {vs : List V} {ρ ρ' : DL.Env} {F H : Hp} {σ : St}, Ok b ρ F H σ → RepR b F H σ ρ avs vs → mAsgs is avs ρ = .ok () ρ' → Ok b ρ' F H (setAll is vs σ) ∧ is.length = vs.length
  | [], _, _, _, _, _, _, _, k, .nil, h => by cases h; exact ⟨k, rfl⟩
  | i :: is, _, _, _, _, _, _, _, k, .nil, h => by cases h
  | [], _, _, _, _, _, _, _, k, .cons _ _ _, h => by cases h
  | i :: is, av :: avs, v :: vs, ρ, ρ', F, H, σ, k, .cons r hn t, h => by
    have hsl := asgs_nosl h
    obtain ⟨hs, h⟩ := asgs_step h (fun z => by cases z)
    obtain ⟨u, ρ1, e1, e2⟩ := bnd_inv h
    obtain ⟨k1, s', es, hh⟩ := asg_run k r hs e1
    have mono : ∀ {avs : List AV} {vs : List V}, (∀ a ∈ avs, isSl a = false) → (∀ d, av = .ow d → ∀ a, v = .ref a → a ∉ ows avs vs) → RepR b F H σ ρ avs vs → RepR b F H (σ.set i (some v)) ρ1 avs vs := by
      intro avs vs hsl hn t
      induction t with
      | nil => exact .nil
      | @cons av' avs v' vs r' hn' t' ih =>
        refine .cons ?_ hn' (ih (fun a ha => hsl a (List.mem_cons_of_mem _ ha)) fun d ed a ea hm => hn d ed a ea (by
          cases av' with
          | ow x =>
            cases v' with
            | ref c => exact List.mem_cons_of_mem _ hm
            | _ => exact hm
          | fz x => cases v' <;> exact hm
          | sl x => cases v' <;> exact hm))
        cases av' with
        | sl j =>
          have := hsl _ List.mem_cons_self
          cases this
        | fz d => exact r'
        | ow d =>
          obtain ⟨c, ec, n, n0, oa, ap, np⟩ := r'
          refine ⟨c, ec, n, n0, oa, fun j t ej ht q => ?_, np⟩
          rw [es] at ej
          rcases set_get ej with ⟨rfl, hlt, rfl⟩ | ⟨hj, ej'⟩
          · obtain ⟨d0, e0⟩ := hh ht
            have hl : j < σ.length := by rw [← k.len]; exact hlt
            rw [List.getElem?_set_self hl] at q
            have ev : v = .ref c := Option.some.inj (Option.some.inj q)
            subst ec
            exact hn d0 e0 c ev (show c ∈ c :: ows avs vs from List.mem_cons_self)
          · rw [List.getElem?_set_ne (Ne.symm hj)] at q
            exact ap j t ej' ht q
    obtain ⟨k2, hl⟩ := asgs_run k1 (mono (fun a ha => hsl a (List.mem_cons_of_mem _ ha)) hn t) e2
    exact ⟨k2, by rw [List.length_cons, List.length_cons, hl]⟩
theorem asgs_noex : ∀ {is : List Nat} {avs : List AV} {ρ ρ' : DL.Env} {x : Exn}, mAsgs is avs ρ = .ex x ρ' → False
  | [], [], _, _, _, h => by cases h
  | [], _ :: _, _, _, _, h => by cases h
  | _ :: _, [], _, _, _, h => by cases h
  | i :: is, a :: as, ρ, ρ', x, h => by
    obtain ⟨hs, h⟩ := asgs_step h (fun z => by cases z)
    unfold M.bnd at h
    cases e : asg i a ρ with
    | no => rw [e] at h; cases h
    | ex y ρ1 =>
      cases a with
      | sl j => cases hs
      | fz d =>
        have e : setFz i d ρ = .ex y ρ1 := e
        unfold setFz at e
        split at e
        · split at e <;> cases e
        · cases e
      | ow d =>
        dsimp only [DL.asg] at e
        split at e
        · split at e <;> cases e
        · cases e
    | ok u ρ1 =>
      rw [e] at h
      exact asgs_noex h
def mPar (is : List Nat) (φ : M (List AV)) : M Ctl := φ.bnd fun avs => (mAsgs is avs).bnd fun _ => M.ret .nx
theorem runSR {φ : M (List AV)} {f : List AV → M Ctl} {σ : St} {H F : Hp} {ρ : DL.Env} {D : Ends} {R : List V → Hp → Prop} (k : Ok b ρ F H σ) (h : Then b W F (φ.bnd f ρ) D)
    (i : ∀ avs vs ρ1 F1 H1, Ok b ρ1 F1 H1 σ → Same F F1 → RepR b F1 H1 σ ρ1 avs vs → Then b W F1 (f avs ρ1) D → R vs H1) : tR W φ b σ H R :=
  ⟨F, ρ, k, h.bnd.imp fun av ρ' F' H' k' s q v r => i av v ρ' F' H' k' s r q.2⟩
theorem Then.asgs {is : List Nat} {avs : List AV} {vs : List V} {σ : St} {F H : Hp} {ρ : DL.Env} {D : Ends} (k : Ok b ρ F H σ) (r : RepR b F H σ ρ avs vs) (h : Then b W F (((mAsgs is avs).bnd fun _ => M.ret .nx) ρ) D) : is.length = vs.length ∧ D.nx (setAll is vs σ) H := by
  unfold M.bnd at h
  cases e : mAsgs is avs ρ with
  | no => rw [e] at h; exact h.elim
  | ex x ρ' => exact (asgs_noex e).elim
  | ok u ρ' =>
    rw [e] at h
    obtain ⟨k', hl⟩ := asgs_run k r e
    exact ⟨hl, h _ F H k' (Same.refl _)⟩
/-- x, y = a, c with plain local names -/
theorem ds_par {i j : Nat} {x y : Str} {a c : Expr} {φ : M (List AV)} {px py pt : Pos} {kt k2 pt2} (hc : X.calm = true) (hN : X.N.Nodup) (hi : X.N[i]? = some x) (hj : X.N[j]? = some y) (hij : i ≠ j)
    (hx : X.env.scope.names.lookup x = some .local) (hy : X.env.scope.names.lookup y = some .local) (ha : PA X [a, c] (tR W φ b))
    (hw : swappedStores [.Tuple [.Name x px, .Name y py] kt pt] (.Tuple [a, c] k2 pt2) X.env = pure (some [x, y]))
    (hs : swapsWithSole [.Tuple [.Name x px, .Name y py] kt pt] (.Tuple [a, c] k2 pt2) pos.line X.env = pure false := by rfl) :
    PS X (.Assign [.Tuple [.Name x px, .Name y py] kt pt] (.Tuple [a, c] k2 pt2) pos) (tS b W (mPar [i, j] φ)) := by
  refine weakS (ps_par hc hN hi hj hij hx hy ha hw hs) fun D σ H ⟨F, ρ, k, h⟩ => ?_
  refine runSR k h fun avs vs ρ1 F1 H1 k1 s1 r1 h1 => ?_
  obtain ⟨hl, q⟩ := Then.asgs k1 r1 h1
  match vs, hl with
  | [v, w], _ => exact ⟨v, w, rfl, q⟩
def gNames : List Nat → TGs
  | [] => gNil
  | i :: is => gCons (gName i) (gNames is)
theorem gNames_all : ∀ {is : List Nat} {vs : List V} {σ : St} {H : Hp} {Q : St → Hp → Prop}, is.length = vs.length → Q (setAll is vs σ) H → gNames is vs σ H Q
  | [], [], _, _, _, _, q => ⟨rfl, q⟩
  | [], _ :: _, _, _, _, h, _ => by cases h
  | _ :: _, [], _, _, _, h, _ => by cases h
  | i :: is, v :: vs, σ, H, Q, h, q => ⟨v, vs, rfl, gNames_all (by simpa using h) q⟩
/-- names = a tuple of written values, by way of the tuple -/
theorem ds_parT {ts es : List Expr} {is : List Nat} {φ : M (List AV)} {kt k2 : Nat} {pt pt2 : Pos} (hc : X.calm = true) (ha : PA X es (tR W φ b)) (hg : PGs X ts (gNames is)) (hl : ts.length = is.length) (hz : is.length ≤ sizeLine := by decide)
    (hs : swapsWithSole [.Tuple ts kt pt] (.Tuple es k2 pt2) pos.line X.env = pure false := by rfl) (hw : swappedStores [.Tuple ts kt pt] (.Tuple es k2 pt2) X.env = pure none := by rfl)
    (h1 : (assignEach [.Tuple ts kt pt] X.env).map (·.2) = [assign (.Tuple ts kt pt) X.env] := by rfl) (hn : (assignEach ts X.env).length = is.length := by rfl) (hst : (assignEach ts X.env).findIdx? (·.1) = none := by rfl) :
    PS X (.Assign [.Tuple ts kt pt] (.Tuple es k2 pt2) pos) (tS b W (mPar is φ)) := by
  refine weakS (ps_asg (pe_tup ha) (pg_tup hc hg hn hst) hs hw h1) fun D σ H ⟨F, ρ, k, h⟩ => ?_
  refine runSR k h fun avs vs ρ1 F1 H1 k1 s1 r1 h1 => ?_
  have len : is.length = vs.length := (Then.asgs k1 r1 h1).1
  refine ⟨by rw [← len]; exact hz, fun p hp => ?_⟩
  have g : Grow F1 H1 F1 (upd H1 p (.tup vs)) := Grow.owned k1.sub hp
  have r2 : RepR b F1 (upd H1 p (.tup vs)) σ ρ1 avs vs := by
    exact r1.grow g
  exact ⟨p, vs, rfl, SqT.of upd_same, len.symm, gNames_all len (Then.asgs (k1.grow g) r2 h1).2⟩
end

/-! ### dict displays -/
def mPairs : List (M AV × M AV) → M (List (D × D))
  | [] => M.ret []
  | (φ, ψ) :: r => φ.bnd fun a => (frz a).bnd fun k => ψ.bnd fun c => (frz c).bnd fun v => (mPairs r).bnd fun l => M.ret ((k, v) :: l)
def mDisp (l : List (M AV × M AV)) : M AV := (mPairs l).bnd fun ps => if (ps.all fun p => (keyOf p.1).isSome) = true ∧ ps.length ≤ 15 then M.ret (.ow (.dct (mergeD [] ps))) else M.stuck
section
variable {X : Cx} {b : Bs} {W : WX} {pos : Pos}
theorem de_dict0 : PE X (.Dict [] [] pos) (tE b W (M.ret (.ow (.dct [])))) := by
  refine weakE pe_dnewK fun σ H Q ⟨F, ρ, k, h⟩ p hp => ?_
  have g : Grow F H F (upd H p (.dK [])) := Grow.owned k.sub hp
  exact h _ _ (k.grow g) (Same.refl _) _ ⟨p, rfl, k.fresh_F hp, k.fresh_0 hp, ⟨[], upd_same, by unfold RepK; rfl⟩, k.apart_new hp, k.prot_new hp⟩
def trsOf (b : Bs) (W : WX) : List (M AV × M AV) → List (TE × TE)
  | [] => []
  | (φ, ψ) :: r => (tEx b W φ, tEx b W ψ) :: trsOf b W r
theorem dpp_nil : PPs X pos [] [] (trsOf b W []) := pps_nil
theorem dpp_cons {k v : Expr} {ks : List (Option Expr)} {vs : List Expr} {φ ψ : M AV} {r : List (M AV × M AV)} (hk : ∀ P, PE X k (tE (b.add P) W φ)) (hv : ∀ P, PE X v (tE (b.add P) W ψ)) (hr : PPs X pos ks vs (trsOf b W r)) :
    PPs X pos (some k :: ks) (v :: vs) (trsOf b W ((φ, ψ) :: r)) := pps_cons (ex_add hk) (ex_add hv) hr
inductive RepPs (K : PySem.W.Frag) (mg : Str → Option Value) (F : Hp) : List (D × D) → List (V × V) → Prop
  | nil : RepPs K mg F [] []
  | cons {k d : D} {r : List (D × D)} {u v : V} {s : List (V × V)} : Rep K mg F k u → Rep K mg F d v → RepPs K mg F r s → RepPs K mg F ((k, d) :: r) ((u, v) :: s)
theorem pairs_run {P : List (Addr × HO)} {σ : St} : ∀ {l : List (M AV × M AV)} {α : Type} {f : List (D × D) → M α} {Q : α → DL.Env → Hp → Hp → Prop} {F H : Hp} {ρ : DL.Env} {R : List (V × V) → Hp → Prop}, Ok (b.add P) ρ F H σ → After (b.add P) W σ F ((mPairs l).bnd f ρ) Q →
    (∀ ps vs ρ1 F1 H1, Ok (b.add P) ρ1 F1 H1 σ → Same F F1 → RepPs b.K b.mg F1 ps vs → After (b.add P) W σ F1 (f ps ρ1) Q → R vs H1) → tPairs (trsOf b W l) σ H R
  | [], α, f, Q, F, H, ρ, R, k, h, i => i [] [] ρ F H k (Same.refl _) .nil h
  | (φ, ψ) :: l, α, f, Q, F, H, ρ, R, k, h, i => by
    have h : After (b.add P) W σ F ((φ.bnd fun a => (frz a).bnd fun k => ψ.bnd fun c => (frz c).bnd fun v => (mPairs l).bnd fun l => f ((k, v) :: l)) ρ) Q := by
      have e : (mPairs ((φ, ψ) :: l)).bnd f = φ.bnd fun a => (frz a).bnd fun k => ψ.bnd fun c => (frz c).bnd fun v => (mPairs l).bnd fun l => f ((k, v) :: l) := by
        show (φ.bnd fun a => (frz a).bnd fun k => ψ.bnd fun c => (frz c).bnd fun v => (mPairs l).bnd fun l => M.ret ((k, v) :: l)).bnd f = _
        simp only [M.bnd_assoc, M.ret_bnd]
      rw [e] at h
      exact h
    refine ⟨P, F, ρ, k, h.bnd.imp fun a ρ1 F1 H1 k1 s1 ⟨_, h1⟩ x r1 => ?_⟩
    obtain ⟨kd, ρ2, F2, k2, s2, q2, h2⟩ := After.froze k1 r1 h1
    refine ⟨P, F2, ρ2, k2, h2.bnd.imp fun c ρ3 F3 H3 k3 s3 ⟨_, h3⟩ y r3 => ?_⟩
    obtain ⟨vd, ρ4, F4, k4, s4, q4, h4⟩ := After.froze k3 r3 h3
    refine pairs_run (l := l) k4 h4 fun ps vs ρ5 F5 H5 k5 s5 r5 h5 => ?_
    exact i _ _ ρ5 F5 H5 k5 (s1.trans (s2.trans (s3.trans (s4.trans s5)))) (.cons (q2.mono (s3.trans (s4.trans s5))) (q4.mono s5) r5) h5
theorem RepPs.keys {K : PySem.W.Frag} {mg : Str → Option Value} {F : Hp} : ∀ {ps : List (D × D)} {vs : List (V × V)}, RepPs K mg F ps vs → (ps.all fun p => (keyOf p.1).isSome) = true → ∃ hk : List (Key × V), vs = hk.map (fun kv => (kV kv.1, kv.2)) ∧ RepK K mg F ps hk
  | _, _, .nil, _ => ⟨[], rfl, by unfold RepK; rfl⟩
  | _, _, .cons (k := k) (d := d) (v := v) q1 q2 t, h => by
    rw [List.all_cons, Bool.and_eq_true] at h
    obtain ⟨kk, ek⟩ := Option.isSome_iff_exists.mp h.1
    obtain ⟨hk, rfl, r⟩ := RepPs.keys t h.2
    have := keyOf_rd (H := F) (.inl q1) ek
    subst this
    refine ⟨(kk, v) :: hk, rfl, ?_⟩
    unfold RepK
    exact ⟨kk, v, hk, rfl, dkey_iff.mpr ek, q2, r⟩
theorem RepPs.len {K : PySem.W.Frag} {mg : Str → Option Value} {F : Hp} {ps : List (D × D)} {vs : List (V × V)} (r : RepPs K mg F ps vs) : ps.length = vs.length := by
  induction r with
  | nil => rfl
  | cons _ _ _ ih => rw [List.length_cons, List.length_cons, ih]
theorem mPairs_len : ∀ {l : List (M AV × M AV)} {ρ ρ' : DL.Env} {ps : List (D × D)}, mPairs l ρ = .ok ps ρ' → ps.length = l.length
  | [], _, _, _, h => by cases h; rfl
  | (φ, ψ) :: l, ρ, ρ', ps, h => by
    have h : (φ.bnd fun a => (frz a).bnd fun k => ψ.bnd fun c => (frz c).bnd fun v => (mPairs l).bnd fun l => M.ret ((k, v) :: l)) ρ = .ok ps ρ' := h
    obtain ⟨a, ρ1, _, h⟩ := bnd_inv h
    obtain ⟨k, ρ2, _, h⟩ := bnd_inv h
    obtain ⟨c, ρ3, _, h⟩ := bnd_inv h
    obtain ⟨v, ρ4, _, h⟩ := bnd_inv h
    obtain ⟨r, ρ5, e, h⟩ := bnd_inv h
    cases h
    rw [List.length_cons, List.length_cons, mPairs_len e]
theorem de_disp {keys : List (Option Expr)} {values : List Expr} {l : List (M AV × M AV)} (h : PPs X pos keys values (trsOf b W l)) (hall : keys.all (·.isSome) = true := by rfl) (hl : keys.length = values.length := by rfl) (h0 : keys ≠ [] := by exact fun e => nomatch e)
    (h15 : keys.length ≤ 15 := by decide) (hll : l.length ≤ 15 := by decide) : PE X (.Dict keys values pos) (tE b W (mDisp l)) := by
  refine weakE (pe_disp h hall hl h0 h15) fun σ H Q ⟨F, ρ, k, h⟩ p hp => ?_
  have g : Grow F H F (upd H p (.dK [])) := Grow.owned k.sub hp
  have k1 : Ok (b.add [(p, .dK [])]) ρ F (upd H p (.dK [])) σ := (k.grow g).add upd_same (k.fresh_F hp) (k.apart_new hp)
  have npP : ∀ q ∈ b.P, q.1 ≠ p := k.prot_new hp
  have n0 := k.fresh_0 hp
  have e : (mPairs l).bnd M.ret = mPairs l := by
    funext ρ
    unfold M.bnd
    cases mPairs l ρ <;> rfl
  have h := After.add (P := [(p, .dK [])]) h.bnd
  rw [← e] at h
  have h' := h
  refine pairs_run (P := [(p, .dK [])]) k1 h' fun ps vs ρ2 F2 H2 k2 s2 r2 h2 => ?_
  obtain ⟨g1, g2, g3⟩ := k2.prot (p, .dK []) List.mem_cons_self
  refine ⟨g1, ?_⟩
  obtain ⟨_, _, h3⟩ := h2 F2 H2 k2 (Same.refl _)
  by_cases hk : (ps.all fun p => (keyOf p.1).isSome) = true ∧ ps.length ≤ 15
  · rw [if_pos hk] at h3
    obtain ⟨hk', rfl, rk⟩ := r2.keys hk.1
    have hlen : hk'.length ≤ 15 := by
      have := r2.len
      rw [List.length_map] at this
      rw [← this]; exact hk.2
    refine ⟨hk', rfl, hlen, ?_⟩
    have oa : OwnAt b.K b.mg F2 (upd H2 p (.dK (mergeK [] hk'))) p (.dct (mergeD [] ps)) := ⟨_, upd_same, rk.merge (by unfold RepK; rfl)⟩
    exact h3 F2 _ (k2.unadd.poke n0 g2 g3 npP) (Same.refl _) _ ⟨p, rfl, g2, n0, oa, g3, npP⟩
  · rw [if_neg hk] at h3
    exact h3.elim
end
end DL

namespace DL
open PySem PySem.Spec L2

/-! ### a op1 c op2 d -/
def mChain (f g : D → D → Option AV) (φ ψ χ : M AV) : M AV := φ.bnd fun a => ψ.bnd fun c => (rd (stab a)).bnd fun x => (rd (stab c)).bnd fun y => match f x y with
  | some (.fz (.bl true)) => χ.bnd fun e => (rd (stab e)).bnd fun z => (rd (stab c)).bnd fun y => lift (g y z)
  | some (.fz (.bl false)) => M.ret (.fz (.bl false))
  | _ => M.stuck
section
variable {X : Cx} {b : Bs} {W : WX} {pos : Pos}
theorem run_chain {f g : D → D → Option AV} {φ ψ χ : M AV} {σ : St} {F H : Hp} {ρ : DL.Env} {Q : VK} (k : Ok b ρ F H σ) (h : After b W σ F (mChain f g φ ψ χ ρ) fun av ρ' F' H' => ∀ v, RepA b F' H' σ ρ' av v → Q v H') :
    tE b W φ σ H fun x H1 => tE b W ψ σ H1 fun y H2 => rD2 b f x y H2 fun z H3 => ∃ k, z = .bl k ∧ (if k = true then tE b W χ σ H3 fun w' H4 => rD2 b g y w' H4 Q else Q (.bl false) H3) := by
  refine runE k h fun av x ρ1 F1 H1 k1 s1 r1 h1 => ?_
  obtain ⟨F2, k2, s2, r2⟩ := k1.stab r1
  refine runE k2 (h1.later s2) fun cv y ρ3 F3 H3 k3 s3 r3 h3 => ?_
  obtain ⟨F4, k4, s4, r4⟩ := k3.stab r3
  have r2' : RepA b F4 H3 σ ρ3 (stab av) x := r2.stays (s3.trans s4)
  obtain ⟨dx, q1, h5⟩ := (h3.later s4).read k4 r2'
  obtain ⟨dy, q2, h6⟩ := h5.read k4 r4
  refine ⟨F4, σ, ρ3, dx, dy, k4, q1, q2, ?_⟩
  have dead : ∀ {P : Prop}, After b W σ F4 ((M.stuck : M AV) ρ3) (fun av ρ' F' H' => ∀ v, RepA b F' H' σ ρ' av v → Q v H') → P := fun h => h.elim
  cases e : f dx dy with
  | none => rw [e] at h6; exact dead h6
  | some o =>
  rw [e] at h6
  cases o with
  | sl i => exact dead h6
  | ow d => exact dead h6
  | fz d =>
  cases d with
  | bl c =>
   cases c with
   | true =>
    intro v F5 H5 k5 s5 r5
    have h6 : After b W σ F4 ((χ.bnd fun e => (rd (stab e)).bnd fun z => (rd (stab cv)).bnd fun y => lift (g y z)) ρ3) _ := h6
    have ev : v = .bl true := by
      have r5 : Rep b.K b.mg F5 (.bl true) v := r5
      unfold Rep at r5; exact r5
    refine ⟨true, ev, iteT ?_⟩
    refine runE k5 (h6.later s5) fun ev z ρ6 F6 H6 k6 s6 r6 h7 => ?_
    obtain ⟨F7, k7, s7, r7⟩ := k6.stab r6
    obtain ⟨dz, q3, h8⟩ := (h7.later s7).read k7 r7
    obtain ⟨dy', q4, h9⟩ := h8.read k7 (r4.stays (s5.trans (s6.trans s7)))
    exact ⟨F7, σ, ρ6, dy', dz, k7, q4, q3, h9.gives⟩
   | false =>
    intro v F5 H5 k5 s5 r5
    have ev : v = .bl false := by
      have r5 : Rep b.K b.mg F5 (.bl false) v := r5
      unfold Rep at r5; exact r5
    exact ⟨false, ev, iteF (h6 F5 H5 k5 s5 _ (by show Rep _ _ _ _ _; unfold Rep; rfl))⟩
  | _ => exact dead h6
theorem de_chain {a c d : Expr} {op op' : CmpOp} {f g : D → D → Option AV} {φ ψ χ : M AV} (fit : Fit X b) (ho : OpD X (compareOp op) f) (ho' : OpD X (compareOp op') g) (ha : PE X a (tE b W φ)) (hc : PE X c (tE b W ψ)) (hd : PE X d (tE b W χ))
    (hm : lastMarks [op, op'] [c, d] = false := by with_unfolding_all rfl) : PE X (.Compare a [op, op'] [c, d] pos) (tE b W (mChain f g φ ψ χ)) := by
  refine weakE (pe_chain (ho b fit) (ho' b fit) ha hc hd hm) fun σ H Q ⟨F, ρ, k, h⟩ => ?_
  exact run_chain k h
theorem dt_chain {a c d : Expr} {op op' : CmpOp} {f g : D → D → Option AV} {φ ψ χ : M AV} (fit : Fit X b) (ho : OpD X (compareOp op) f) (ho' : OpD X (compareOp op') g) (ha : PE X a (tE b W φ)) (hc : PE X c (tE b W ψ)) (hd : PE X d (tE b W χ))
    (hm : lastMarks [op, op'] [c, d] = false := by with_unfolding_all rfl) : PT X (.Compare a [op, op'] [c, d] pos) (tT b W (mTest (mChain f g φ ψ χ))) := by
  refine weakT (pt_chain (ho b fit) (ho' b fit) ha hc hd hm) fun σ H Q ⟨F, ρ, k, h⟩ => ?_
  refine run_chain k (h.bnd.imp fun av ρ' F' H' k' s' ⟨_, q⟩ v r => ?_)
  obtain ⟨d, q1, h2⟩ := q.read k' r
  obtain ⟨c, rfl, h3⟩ := rd_bl q1 h2
  exact ⟨c, rfl, h3 F' H' k' (Same.refl _)⟩
end

/-! ### isinstance -/
def tyN : D → Option String
  | .non => some "NoneType"
  | .bl _ => some "bool"
  | .int _ => some "int"
  | .str _ => some "str"
  | .tup _ => some "tuple"
  | .lst _ => some "list"
  | .scr _ => some "list"
  | .dct _ => some "dict"
  | .ins _ _ => none
def isB (T : String) (t : String) : Bool := t == T || (t == "bool" && T == "int")
def isiB (T : String) (d : D) : Option Bool := (tyN d).map (isB T)
def mIsi (f : D → Option Bool) (φ : M AV) : M AV := φ.bnd fun a => (rd (stab a)).bnd fun d => lift ((f d).map fun r => .fz (.bl r))
/-- what is asked of the answers about a class -/
def IsiOk (X : Cx) (u : Value) (f : D → Option Bool) : Prop := ∀ (b : Bs) (F H : Hp) (d : D) (v : V) (r : Bool), Fit X b → Sub F H → Rd1 b F H d v → f d = some r → ∃ t, TyX X.K H v t ∧ PySem.W.kitOne X.K t u = some r
theorem tyN_ok {X : Cx} {b : Bs} {F H : Hp} {d : D} {v : V} {t : String} (fit : Fit X b) (sb : Sub F H) (r : Rd1 b F H d v) (h : tyN d = some t) : TyX X.K H v (.type t) := by
  cases d with
  | non => cases h; rw [rNon r]; exact .base .non
  | bl c => cases h; rw [rBl r]; exact .base (.bl c)
  | int c => cases h; rw [rInt r]; exact .base (.int c)
  | str c => cases h; rw [rStr r]; exact .base (.str c)
  | tup l =>
    cases h
    obtain ⟨a, xs, rfl, e, _⟩ := RepD.tup sb r
    rw [fit.K] at e
    rcases e with (e | ⟨o, e⟩) | ⟨o, its, n, h1, h2, _⟩
    · exact .base (.tup e)
    · exact .fTuple e
    · exact .kTuple h1 h2
  | lst l =>
    cases h
    obtain ⟨a, xs, rfl, e, _⟩ := RepD.lst sb r
    exact .base (.lst e)
  | scr l =>
    cases h
    obtain ⟨a, rfl, e⟩ := RepD.scr sb r
    rw [fit.K] at e
    rcases e with (e | ⟨o, e⟩) | ⟨o, its, n, h1, h2, _⟩
    · exact .base (.lst e)
    · exact .base (.frz e)
    · exact .kList h1 h2
  | dct l =>
    cases h
    obtain ⟨a, hk, rfl, e, _⟩ := RepD.dct sb r
    rcases e with e | ⟨o, e⟩
    · exact .base (.dK e)
    · exact .fDict e
  | ins c fs => cases h
theorem isiB_ok {X : Cx} (T : String) (hT : (["NoneType", "bool", "int", "str", "tuple", "list", "dict"].all fun t => decide (kitB t T = some (isB T t))) = true) : IsiOk X (.type T) (isiB T) := by
  intro b F H d v r fit sb rd h
  unfold isiB at h
  cases e : tyN d with
  | none => rw [e] at h; cases h
  | some t =>
    rw [e] at h
    cases h
    refine ⟨_, tyN_ok fit sb rd e, kit_ty ?_⟩
    have hm : t ∈ ["NoneType", "bool", "int", "str", "tuple", "list", "dict"] := by
      cases d <;> cases e <;> simp
    exact of_decide_eq_true (List.all_eq_true.mp hT t hm)
section
variable {X : Cx} {b : Bs} {W : WX} {pos : Pos}
theorem de_isi {p : Pos} {e ec : Expr} {φ : M AV} {cv : V} {u : Value} {f : D → Option Bool} (fit : Fit X b) (ok : IsiOk X u f) (hc : ClsV cv u) (hec : PE X ec (tC cv)) (he : PE X e (tE b W φ)) (hm : X.mg "isinstance" = none) (hg : Gl X "isinstance" := by rfl) (hv : bootBuiltins "isinstance" = some (.builtin "isinstance") := by kernel_rfl)
    (hs : starEach [e, ec] X.env = (false, eval e X.env) :: starEach [ec] X.env := by rfl) (hs2 : starEach [ec] X.env = (false, eval ec X.env) :: starEach [] X.env := by rfl) (hpl : (backTo pos (starEach [ec] X.env)).any (·.1) = false := by rfl) :
    PE X (.Call (.Name "isinstance" p) [e, ec] [] pos) (tE b W (mIsi f φ)) := by
  refine weakE (pe_callB call_isi hg hm hv (pa_cons he (pa_cons hec pa_nil hs2) hs) (by decide) (by decide) hs hpl) fun σ H Q ⟨F, ρ, k, h⟩ => ?_
  refine runE k h fun av x ρ1 F1 H1 k1 s1 r1 h1 => ?_
  obtain ⟨F2, k2, s2, r2⟩ := k1.stab r1
  obtain ⟨d, q1, h2⟩ := (h1.later s2).read k2 r2
  cases e : f d with
  | none => rw [e] at h2; exact h2.elim
  | some r =>
    rw [e] at h2
    obtain ⟨t, ty, kit⟩ := ok b F2 H1 d x r fit k2.sub q1 e
    exact ⟨x, cv, t, u, r, rfl, hc, ty, kit, gBl k2 (After.gives (o := some (.fz (.bl r))) h2)⟩
end

/-! ### raise X() -/
structure XcD (X : Cx) (x : Str) : Prop where
  ex : ∃ (C : Addr) (bmB : List Value) (B newId initId : String), PySem.W.excIn X.K C bmB newId = true ∧ X.mg x = some (.ref C) ∧ PySem.W.keepIn X.K (.ref C) = true ∧ Raises X (.ref C) ∧ ExcBaseFacts B newId initId bmB
def mRaise (x : Str) : M Ctl := fun ρ => .ex ⟨x, []⟩ ρ
section
variable {X : Cx} {b : Bs} {W : WX} {pos : Pos}
theorem pmk_own0 {C : Addr} {bmB : List Value} {B newId initId : String} {x : Str} {p : Pos} (F : ExcBaseFacts B newId initId bmB) (q : PySem.W.excIn X.K C bmB newId = true) (gC : X.mg x = some (.ref C))
    (kC : PySem.W.keepIn X.K (.ref C) = true) (r : Raises X (.ref C)) (hg : Gl X x) (hdb : (x == ("__debug__" : Str)) = false) : PMk X (.Call (.Name x p) [] [] pos) (fun _ H Q => Q (.ref C) none H) := by
  intro pins s σ H Q I h
  refine wpAny_Call_Name_kw (ld_glob I hg gC (PySem.W.callWith_K0 I.kIn kC ?_) hdb)
  show wpAny _ _ (call (.ref C) []) _ _ _
  obtain ⟨bm, N, nm, qn, bs, hdct, sn, sub, ab, col, dd, k0, k1, k2, k3, k5, mN, hC, hN, hni, T⟩ := exc_obj I.kIn q
  refine wpAny_call_exc_subT F T hC hN hni (fun h' e hm => ?_) (Nat.zero_le _)
  exact mk_of I hm r h (I.hok.gone hm.new)
theorem ds_raise0 {x : Str} {p pos' : Pos} (fit : Fit X b) (tk : Takes X W) (xc : XcD X x) (hg : Gl X x := by rfl) (hdb : (x == ("__debug__" : Str)) = false := by decide) (hc : X.calm = true := by rfl) : PS X (.Raise (some (.Call (.Name x p) [] [] pos)) none pos') (tS b W (mRaise x)) := by
  obtain ⟨C, bmB, B, n, i, q, gC, kC, r, F⟩ := xc.ex
  refine weakS (ps_raise hc tk (pmk_own0 F q gC kC r hg hdb)) fun D σ H ⟨F, ρ, k, h⟩ => ?_
  exact h _ _ σ F H k (Same.refl _) ⟨C, by rw [fit.mg]; exact gC, rfl, .inl rfl⟩

/-! ### try: .. except x: .. -/
def mTry (cs : Str → Option Bool) (φ ψ : M Ctl) : M Ctl := fun ρ => match φ ρ with
  | .ex e ρ' => match cs e.c with
    | some true => match ψ ρ' with
      | .ex _ _ => .no
      | r => r
    | some false => .ex e ρ'
    | none => .no
  | r => r
/-- which classes the clause takes -/
def Catch (X : Cx) (c : Value) (cs : Str → Option Bool) : Prop := ∀ (x : Str) (C : Addr) (r : Bool), X.mg x = some (.ref C) → cs x = some r → PySem.W.exmOne X.K (.ref C) c = some r
theorem ds_try {x : Str} {c : Value} {body suite : List Stmt} {b₀ : Stmt} {np pos pos' : Pos} {φ ψ : M Ctl} {cs : Str → Option Bool} (fit : Fit X b) (hs : X.stack = X.env :: X.outer) (hf : X.env.frame = some X.env.locals) (hc : Names X x c) (tk : Takes X W) (ct : Catch X c cs)
    (hb : ∀ (W : WX) (pn : List (Addr × Obj)) (xe : Value → Shared → Prop), Takes (X.tr pn xe) W → PassesOwn (model X.prog X.w) X.A X.env xe → PSs (X.tr pn xe) body (tS b W φ))
    (hsu : ∀ (a : Addr) (pn : List (Addr × Obj)), PSs (X.suite a pn) (b₀ :: suite) (tS b W0 ψ)) :
    PS X (.Try body [.ExceptHandler (some (.Name x np)) none (b₀ :: suite) pos'] [] [] pos) (tS b W (mTry cs φ ψ)) := by
  refine weakS (ps_try_only (ts := fun _ _ _ => tS b W0 ψ) hs hf hc tk hb (fun a oe cls d pn _ _ => hsu a _)) fun D σ H ⟨F, ρ, k, h⟩ => ?_
  refine ⟨F, ρ, k, ?_⟩
  unfold mTry at h
  cases e : φ ρ with
  | no => rw [e] at h; exact h.elim
  | ok ctl ρ' =>
    rw [e] at h
    cases ctl with
    | nx => exact h
    | bk => exact h
    | ct => exact h
    | rt av => exact h
  | ex x ρ' =>
    simp only [e] at h
    intro cls dd σ' F' H' k' s' ⟨C, mC, ec, er⟩
    subst ec
    cases ecs : cs x.c with
    | none => simp only [ecs] at h; exact h.elim
    | some r =>
      have hx := ct x.c C r (by rw [← fit.mg]; exact mC) ecs
      refine ⟨r, hx, fun hr a _ => ?_, fun hr => ?_⟩
      · subst hr
        simp only [ecs] at h
        refine ⟨F', ρ', k', Then.later ?_ s'⟩
        cases e3 : ψ ρ' with
        | no => rw [e3] at h; exact h.elim
        | ok ctl ρ2 =>
          rw [e3] at h
          cases ctl with
          | nx => exact h
          | bk => exact h
          | ct => exact h
          | rt av => exact h
        | ex x2 ρ2 => rw [e3] at h; exact h.elim
      · subst hr
        simp only [ecs] at h
        exact h _ _ σ' F' H' k' s' ⟨C, mC, rfl, er⟩
end
end DL

namespace DL
open PySem PySem.Spec L2

/-! ### repr -/
mutual
def toPy : D → Option PyData
  | .non => some .none
  | .bl b => some (.bool b)
  | .int i => some (.int i)
  | .str s => some (.str s)
  | .tup l => (toPys l).map .tuple
  | .lst l => (toPys l).map .list
  | _ => none
def toPys : List D → Option (List PyData)
  | [] => some []
  | d :: r => match toPy d, toPys r with
    | some p, some l => some (p :: l)
    | _, _ => none
end
mutual
/-- no list in it -/
def noLst : D → Bool
  | .tup l => noLsts l
  | .lst _ => false
  | .non => true
  | .bl _ => true
  | .int _ => true
  | .str _ => true
  | _ => false
def noLsts : List D → Bool
  | [] => true
  | d :: r => noLst d && noLsts r
end
def toPyK : List (D × D) → Option (List (PyData × PyData))
  | [] => some []
  | (k, d) :: r => match toPy k, toPy d, toPyK r with
    | some p, some q, some l => some ((p, q) :: l)
    | _, _, _ => none
def okPy (p : PyData) : Bool := p.showable && decide (p.shown.length ≤ sizeLine) && decide (p.depth ≤ 40)
def fRepr : List D → Option AV
  | [.int i] => if i.natAbs.log2 < 1920 then some (.fz (.str (toString i))) else none
  | [.lst l] => match toPys l with
    | some ps => if okPy (.list ps) then some (.fz (.str (PyData.shown (.list ps)))) else none
    | none => none
  | [.tup l] => match toPys l with
    | some ps => if okPy (.tuple ps) then some (.fz (.str (PyData.shown (.tuple ps)))) else none
    | none => none
  | [.dct l] => match toPyK l with
    | some ps => if okPy (.dict ps) && l.all (fun p => noLst p.1 && noLst p.2) then some (.fz (.str (PyData.shown (.dict ps)))) else none
    | none => none
  | _ => none
section
variable {X : Cx} {mg : Str → Option Value} {F H : Hp} {pins : List (Addr × Obj)} {σ : St} {s : Shared}
mutual
theorem dp_of (sb : Sub F H) : ∀ {d : D} {v : V} {p : PyData}, Rep X.K mg F d v → toPy d = some p → Dp X.K H v p
  | .non, v, p, r, e => by unfold toPy at e; cases e; unfold Rep at r; subst r; exact .non
  | .bl c, v, p, r, e => by unfold toPy at e; cases e; unfold Rep at r; subst r; exact .bl c
  | .int c, v, p, r, e => by unfold toPy at e; cases e; unfold Rep at r; subst r; exact .int c
  | .str c, v, p, r, e => by unfold toPy at e; cases e; unfold Rep at r; subst r; exact .str c
  | .tup l, v, p, r, e => by
    unfold toPy at e
    cases e2 : toPys l with
    | none => rw [e2] at e; cases e
    | some ps =>
      rw [e2] at e; cases e
      unfold Rep at r
      obtain ⟨a, xs, rfl, q, rl⟩ := r
      exact .tup (sb.sqT q) (dps_of sb rl e2)
  | .lst l, v, p, r, e => by
    unfold toPy at e
    cases e2 : toPys l with
    | none => rw [e2] at e; cases e
    | some ps =>
      rw [e2] at e; cases e
      unfold Rep at r
      obtain ⟨a, xs, rfl, q, rl⟩ := r
      exact .lst (SqL.of (sb.lst q)) (dps_of sb rl e2)
  | .dct _, _, _, _, e => by unfold toPy at e; cases e
  | .ins _ _, _, _, _, e => by unfold toPy at e; cases e
  | .scr _, _, _, _, e => by unfold toPy at e; cases e
theorem dps_of (sb : Sub F H) : ∀ {ds : List D} {vs : List V} {ps : List PyData}, RepL X.K mg F ds vs → toPys ds = some ps → DpAll X.K H vs ps
  | [], vs, ps, r, e => by unfold toPys at e; cases e; unfold RepL at r; subst r; exact .nil
  | d :: ds, vs, ps, r, e => by
    unfold toPys at e
    unfold RepL at r
    obtain ⟨v, t, rfl, q, rl⟩ := r
    cases e1 : toPy d with
    | none => rw [e1] at e; cases e
    | some p =>
      rw [e1] at e
      cases e2 : toPys ds with
      | none => rw [e2] at e; cases e
      | some l =>
        rw [e2] at e; cases e
        exact .cons (dp_of sb q e1) (dps_of sb rl e2)
end
mutual
/-- no list in it: nothing but tuples is gone through -/
theorem reads_nl (I : L2.Inv X pins σ H s) (sb : Sub F H) : ∀ {d : D} {v : V} {u : Value} {p : PyData}, Rep X.K mg F d v → RelV v u → toPy d = some p → noLst d = true → Reads s.heap u p []
  | .non, v, u, p, r, q, e, _ => by unfold toPy at e; cases e; unfold Rep at r; subst r; cases q; exact .none
  | .bl c, v, u, p, r, q, e, _ => by unfold toPy at e; cases e; unfold Rep at r; subst r; cases q; exact .bool c
  | .int c, v, u, p, r, q, e, _ => by unfold toPy at e; cases e; unfold Rep at r; subst r; obtain ⟨t, rfl⟩ := q; exact .int c t
  | .str c, v, u, p, r, q, e, _ => by unfold toPy at e; cases e; unfold Rep at r; subst r; obtain ⟨t, rfl⟩ := q; exact .str c t
  | .tup l, v, u, p, r, q, e, h => by
    unfold toPy at e
    cases e2 : toPys l with
    | none => rw [e2] at e; cases e
    | some ps =>
      rw [e2] at e; cases e
      unfold Rep at r
      obtain ⟨a, xs, rfl, qq, rl⟩ := r
      cases q
      obtain ⟨its, rv, ⟨o, ho, hc, n, hd⟩, _⟩ := I.tuple (sb.sqT qq)
      unfold noLst at h
      exact Reads.tuple ho hc hd (readsAll_nl I sb rl rv e2 h)
  | .lst l, _, _, _, _, _, _, h => by unfold noLst at h; cases h
  | .dct _, _, _, _, _, _, e, _ => by unfold toPy at e; cases e
  | .ins _ _, _, _, _, _, _, e, _ => by unfold toPy at e; cases e
  | .scr _, _, _, _, _, _, e, _ => by unfold toPy at e; cases e
theorem readsAll_nl (I : L2.Inv X pins σ H s) (sb : Sub F H) : ∀ {ds : List D} {vs : List V} {us : List Value} {ps : List PyData}, RepL X.K mg F ds vs → Vals vs us → toPys ds = some ps → noLsts ds = true → ReadsAll s.heap us ps []
  | [], vs, us, ps, r, q, e, _ => by unfold toPys at e; cases e; unfold RepL at r; subst r; cases q; exact .nil
  | d :: ds, vs, us, ps, r, q, e, h => by
    unfold toPys at e
    unfold RepL at r
    unfold noLsts at h
    rw [Bool.and_eq_true] at h
    obtain ⟨v, t, rfl, r1, rl⟩ := r
    cases q with
    | cons q1 q2 =>
      cases e1 : toPy d with
      | none => rw [e1] at e; cases e
      | some p =>
        rw [e1] at e
        cases e2 : toPys ds with
        | none => rw [e2] at e; cases e
        | some l =>
          rw [e2] at e; cases e
          have := ReadsAll.cons (reads_nl I sb r1 q1 e1 h.1) (readsAll_nl I sb rl q2 e2 h.2)
          exact this
end
theorem dict_reads {es : List DictEntry} : ∀ {kvs : List (D × D)} {hk : List (Key × V)} {vs : List (Key × Value)} {ps : List (PyData × PyData)} (I : L2.Inv X pins σ H s) (sb : Sub F H) {es : List DictEntry}, RepK X.K mg F kvs hk → KV hk vs → PySem.Pairs (mixKind X.prog X.w) es vs → toPyK kvs = some ps → kvs.all (fun p => noLst p.1 && noLst p.2) = true →
    ReadsAll s.heap (es.map (·.key)) (ps.map (·.1)) [] ∧ ReadsAll s.heap (es.map (·.val)) (ps.map (·.2)) []
  | [], hk, vs, ps, I, sb, es, r, kv, pr, e, h => by
    unfold toPyK at e; cases e
    unfold RepK at r; subst r
    cases kv; cases pr
    exact ⟨.nil, .nil⟩
  | (k, d) :: kvs, hk, vs, ps, I, sb, es, r, kv, pr, e, h => by
    unfold toPyK at e
    unfold RepK at r
    obtain ⟨kk, v, t, rfl, hkk, rv, rr⟩ := r
    rw [List.all_cons, Bool.and_eq_true, Bool.and_eq_true] at h
    cases kv with
    | @cons _ q _ qs hq tq =>
      cases pr with
      | @cons en _ es' _ h1 h2 h3 =>
        cases e1 : toPy k with
        | none => rw [e1] at e; cases e
        | some p1 =>
          rw [e1] at e
          cases e2 : toPy d with
          | none => rw [e2] at e; cases e
          | some p2 =>
            rw [e2] at e
            cases e3 : toPyK kvs with
            | none => rw [e3] at e; cases e
            | some l =>
              rw [e3] at e; cases e
              obtain ⟨g1, g2⟩ := dict_reads (es := es') I sb rr tq h3 e3 h.2
              have rk : Rep X.K mg F k (kV kk) := keyOf_kV (dkey_iff.mp hkk)
              have relk : RelV (kV kk) en.key := by
                have e0 : kk = q.1 := hq.1
                rw [e0]
                exact relV_of_key h1
              have relv : RelV v en.val := by rw [h2]; exact hq.2
              exact ⟨ReadsAll.cons (reads_nl I sb rk relk e1 h.1.1) g1, ReadsAll.cons (reads_nl I sb rv relv e2 h.1.2) g2⟩
where
  relV_of_key {k : Key} {u : Value} (h : (mixKind X.prog X.w).is k u = true) : RelV (kV k) u := by
    rcases keyIs_shape h with ⟨i, t, rfl, rfl⟩ | ⟨x, t, rfl, rfl⟩
    · exact ⟨t, rfl⟩
    · exact ⟨t, rfl⟩
end
theorem toPys_noDict : ∀ {ds : List D} {ps : List PyData}, toPys ds = some ps → PyData.hasDictAll ps = false := by
  have one : ∀ {n : Nat} {d : D} {p : PyData}, sizeOf d ≤ n → toPy d = some p → p.hasDict = false := by
    intro n
    induction n with
    | zero => intro d p h; cases d <;> simp at h
    | succ n ih =>
      intro d p h e
      have all : ∀ {ds : List D} {ps : List PyData}, sizeOf ds ≤ n → toPys ds = some ps → PyData.hasDictAll ps = false := by
        intro ds
        induction ds with
        | nil => intro ps _ e; unfold toPys at e; cases e; simp only [PyData.hasDictAll]
        | cons c cs ihc =>
          intro ps hs e
          simp only [List.cons.sizeOf_spec] at hs
          unfold toPys at e
          cases e1 : toPy c with
          | none => rw [e1] at e; cases e
          | some p1 =>
            rw [e1] at e
            cases e2 : toPys cs with
            | none => rw [e2] at e; cases e
            | some l =>
              rw [e2] at e; cases e
              simp only [PyData.hasDictAll, ih (by omega) e1, ihc (by omega) e2, Bool.or_false]
      cases d with
      | non => unfold toPy at e; cases e; simp only [PyData.hasDict]
      | bl c => unfold toPy at e; cases e; simp only [PyData.hasDict]
      | int c => unfold toPy at e; cases e; simp only [PyData.hasDict]
      | str c => unfold toPy at e; cases e; simp only [PyData.hasDict]
      | tup l =>
        unfold toPy at e
        simp only [D.tup.sizeOf_spec] at h
        cases e2 : toPys l with
        | none => rw [e2] at e; cases e
        | some ps => rw [e2] at e; cases e; simp only [PyData.hasDict]; exact all (by omega) e2
      | lst l =>
        unfold toPy at e
        simp only [D.lst.sizeOf_spec] at h
        cases e2 : toPys l with
        | none => rw [e2] at e; cases e
        | some ps => rw [e2] at e; cases e; simp only [PyData.hasDict]; exact all (by omega) e2
      | dct _ => unfold toPy at e; cases e
      | ins _ _ => unfold toPy at e; cases e
      | scr _ => unfold toPy at e; cases e
  intro ds
  induction ds with
  | nil => intro ps e; unfold toPys at e; cases e; simp only [PyData.hasDictAll]
  | cons c cs ihc =>
    intro ps e
    unfold toPys at e
    cases e1 : toPy c with
    | none => rw [e1] at e; cases e
    | some p1 =>
      rw [e1] at e
      cases e2 : toPys cs with
      | none => rw [e2] at e; cases e
      | some l =>
        rw [e2] at e; cases e
        simp only [PyData.hasDictAll, one (Nat.le_refl _) e1, ihc e2, Bool.or_false]
section
variable {X : Cx}
/-- repr of what is read in the heap -/
theorem call_reprR (hg : X.A.guards = some []) (hu : X.A.units + 64 < cLine) : CallR X (.builtin "repr") (fun xs H Q => ∃ a p, xs = [V.ref a] ∧ okPy p = true ∧ (∀ (pins : List (Addr × Obj)) (s : Shared) (σ : St), L2.Inv X pins σ H s → ∃ as, Reads s.heap (.ref a) p as ∧ (p.hasDict = true → sysModules ∉ as)) ∧ Q (.str p.shown) H) := by
  intro pins s σ H xs us Q I r ⟨a, p, ex, ok, rd, q⟩
  subst ex
  obtain ⟨u, rfl, ru⟩ := vals1 r
  cases ru
  obtain ⟨as, r1, hsm⟩ := rd pins s σ I
  unfold okPy at ok
  rw [Bool.and_eq_true, Bool.and_eq_true] at ok
  have hd := of_decide_eq_true ok.2
  refine repr_of_reads' r1 ok.1.1 hsm hg (by omega) (fun _ _ e => e) (fun h' u tk hk => ?_) (of_decide_eq_true ok.1.2)
  exact ⟨.str p.shown, H, I.kept (t' := tk) hk, ⟨u, rfl⟩, q⟩
theorem cd_repr (hg : X.A.guards = some []) (hu : X.A.units + 64 < cLine) : CallD X (.builtin "repr") fRepr := by
  intro b fit
  refine weakC (CallR.orD SkE.call_repr_int (call_reprR hg hu)) fun xs H Q ⟨F, σ', ρ, ds, ok, r, g⟩ => ?_
  unfold fRepr at g
  split at g
  · obtain ⟨v, rfl, r1⟩ := r.one
    cases rInt r1
    split at g
    · rename_i hz
      exact .inl ⟨_, rfl, hz, gStr ok g⟩
    · exact g.elim
  · rename_i l
    obtain ⟨v, rfl, r1⟩ := r.one
    obtain ⟨a, xs, rfl, e1, l1⟩ := RepD.lst ok.sub r1
    split at g
    · rename_i ps e
      split at g
      · rename_i hz
        refine .inr ⟨a, .list ps, rfl, hz, fun pins s σ I => ?_, gStr ok g⟩
        rw [fit.K] at l1
        have dp : Dp X.K H (.ref a) (.list ps) := .lst (SqL.of e1) (dps_of ok.sub l1 e)
        obtain ⟨as, rr⟩ := Dp.reads I _ _ _ dp rfl
        refine ⟨as, rr, fun hd => ?_⟩
        simp only [PyData.hasDict, toPys_noDict e] at hd
        cases hd
      · exact g.elim
    · exact g.elim
  · rename_i l
    obtain ⟨v, rfl, r1⟩ := r.one
    obtain ⟨a, xs, rfl, e1, l1⟩ := RepD.tup ok.sub r1
    split at g
    · rename_i ps e
      split at g
      · rename_i hz
        refine .inr ⟨a, .tuple ps, rfl, hz, fun pins s σ I => ?_, gStr ok g⟩
        rw [fit.K] at l1 e1
        have dp : Dp X.K H (.ref a) (.tuple ps) := .tup e1 (dps_of ok.sub l1 e)
        obtain ⟨as, rr⟩ := Dp.reads I _ _ _ dp rfl
        refine ⟨as, rr, fun hd => ?_⟩
        simp only [PyData.hasDict, toPys_noDict e] at hd
        cases hd
      · exact g.elim
    · exact g.elim
  · rename_i l
    obtain ⟨v, rfl, r1⟩ := r.one
    obtain ⟨a, hk, rfl, e1, l1⟩ := RepD.dct ok.sub r1
    split at g
    · rename_i ps e
      split at g
      · rename_i hz
        rw [Bool.and_eq_true] at hz
        refine .inr ⟨a, .dict ps, rfl, hz.1, fun pins s σ I => ?_, gStr ok g⟩
        rw [fit.K] at l1
        obtain ⟨_, hd, vs, rel, o, es, ep, h1, h2, h3, h4, h5, h6⟩ := dk_rd I.hok e1
        obtain ⟨g1, g2⟩ := dict_reads (es := es.toList) I ok.sub l1 rel h5 e hz.2
        refine ⟨_, Reads.dict h1 h2.1 h3 g1 g2, fun _ hm => ?_⟩
        have : sysModules = a := by simpa using hm
        subst this
        simp at hd
      · exact g.elim
    · exact g.elim
  · exact g.elim
end
end DL

namespace DL
open PySem PySem.Spec PyProof.Rows L2

/-! ### the end of a law -/
theorem law_callG {P : Program} {w : World} {K : PySem.W.Frag} {mg mb : Str → Option Value} {k : Nat} {fa a : Addr} {fd : FuncData} {x : Str} {f : Fn} {s₁ : Shared} {vs : List Value} {ns : List Int}
    (KX : K.In s₁.heap) (hns : s₁.heap.Ns mainGlobals mg) (hb : s₁.heap.Ns builtinsNs mb) (hbb : ∀ x : Str, x ≠ "__name__" → mb x = bootBuiltins x) (hlim : s₁.heap.NoLimit) (hg : s₁.gens = #[])
    (ha : s₁.heap.get? a = some { cls := .type "list", data := .seq vs.toArray }) (hi : IntsAre vs ns) (hl : ns.length ≤ sizeLine) (hr : Room k callerA)
    (F : ∀ base : Heap, K.In base → base.Ns mainGlobals mg → FnG P w K mg base k fa fd [x] (spD K mg 1 f)) (hbind : ∀ (s : Shared) (u : Value), BindsTo s fd ⟨[u], []⟩ [(x, u)])
    (hf : ∃ bs, f [.fz (.scr ns)] = .ok false (.bl true) bs) :
    codeAny (model P w) callerA (.call (.ref fa) ⟨[.ref a], []⟩) (fun r s' => r = .ok (.ret (.bool true)) ∧ OldK s₁.heap s'.heap ∧ s'.os = s₁.os ∧ AllBare s'.gens) s₁ := by
  have rv := vals_ints hi
  have lenV := hi.length
  have core : ∀ H : Hp, Only H → SqL K H a (ns.map V.int) → HOk P w H s₁.heap → (∀ b, H b ≠ none → b = a) → (H a ≠ none → K.lookup a = none) →
      codeAny (model P w) callerA (.call (.ref fa) ⟨[.ref a], []⟩) (fun r s' => r = .ok (.ret (.bool true)) ∧ OldK s₁.heap s'.heap ∧ s'.os = s₁.os ∧ AllBare s'.gens) s₁ := by
    intro H hO hS hok hA hK
    have noA : ∀ {b : Addr} {o : Obj} {es : Array DictEntry} {ep : Nat}, s₁.heap.get? b = some o → o.data = .dict es ep → H b = none := fun {b o es ep} e d => by
      cases q : H b with
      | none => rfl
      | some u =>
        have e' : b = a := hA b (by rw [q]; simp)
        subst e'
        rw [ha] at e; cases e
        have d' : Data.seq vs.toArray _ = Data.dict es ep := d
        cases d'
    have nsK : ∀ {b : Addr} {m : Str → Option Value}, s₁.heap.Ns b m → (hidT s₁.heap H).Ns b m := fun {b m} ⟨o, es, ep, e, d, r⟩ => ⟨o, es, ep, hidT_get e (noA e d), d, r⟩
    have hKb : K.In (hidT s₁.heap H) := fun b o e => hidT_get (KX b o e) (by
      cases q : H b with
      | none => rfl
      | some u =>
        have e' : b = a := hA b (by rw [q]; simp)
        subst e'
        rw [hK (by rw [q]; simp)] at e; cases e)
    have hM : Mod K mg (hidT s₁.heap H) := ⟨hKb, nsK hns, ⟨mb, nsK hb, hbb⟩, let ⟨mc, h1, h2⟩ := hlim; ⟨mc, nsK h1, h2⟩⟩
    have e0 : Env0 P w K mg (hidT s₁.heap H) callerA [] s₁ H := ⟨rfl, hM, fun b o e => of_hidT e, Nat.le_of_eq (hidT_size _ _), trivial, fun b hb => absurd (show b ∈ ([] : List Addr) from hb) (by simp), hok, .of_eq hg⟩
    have hsp : spD K mg 1 f [.ref a] H (fun v _ => v = .bl true) fun _ _ _ => False := by
      obtain ⟨bs, hf⟩ := hf
      refine ⟨rfl, H, [.fz (.scr ns)], fun _ _ e => .inl e, .cons (by show Rep _ _ _ _ _; unfold Rep; exact ⟨a, rfl, hS⟩) .nil, by simp [boA], ?_⟩
      rw [hf]
      intro v F' H' _ r
      have r : Rep K mg F' (.bl true) v := r
      unfold Rep at r
      exact r
    refine codeAny_mono ((F _ hKb (nsK hns)).run callerA [] s₁ H ⟨[.ref a], []⟩ [.ref a] [.ref a] _ _ hr rfl e0 (hbind s₁ (.ref a)) (.cons rfl .nil) hsp) fun r s' h => ?_
    cases r with
    | error e =>
      obtain ⟨_, _, _, _, _, _, _, _, _, _, _, _, z⟩ := (show L2.CX P w [] H s₁ (fun _ _ _ => False) e s' from h)
      exact z.elim
    | ok fl =>
      cases fl with
      | next => exact False.elim h
      | brk => exact False.elim h
      | cont => exact False.elim h
      | ret u =>
        obtain ⟨v, H', os, bare, un, hok', r', q⟩ := h
        have q' : v = .bl true := q
        subst q'
        obtain rfl : u = Value.bool true := r'
        refine ⟨rfl, OldK.of_keep fun b o e => ?_, os, bare⟩
        cases q : H b with
        | none => exact un.keep b o e q (by intro z; exact absurd (show b ∈ ([] : List Addr) from z) (by simp)) (by simp)
        | some u =>
          rcases hO b with z | ⟨ob, xs, z⟩
          · rw [q] at z; cases z
          · have z2 := un.frzs b ob _ z
            obtain ⟨e1, _⟩ := hok b _ z
            obtain ⟨e2, _⟩ := hok' b _ z2
            rw [e] at e1; cases e1
            exact e2
  cases hk : K.lookup a with
  | some o =>
    have e := KX a o hk
    rw [ha] at e
    cases e
    refine core (fun _ => none) (fun _ => .inl rfl) (.inr ⟨_, vs.toArray, _, hk, rfl, rfl, rfl, by rw [List.size_toArray, lenV]; exact hl, by simpa using rv⟩) (fun b u z => by have z' : (none : Option HO) = some u := z; cases z') (fun b z => absurd rfl z) fun z => absurd rfl z
  | none =>
    refine core (fun b => if b = a then some (.frz { cls := .type "list", data := .seq vs.toArray } (.lst (ns.map V.int))) else none) (fun b => ?_) (.inl (.inr ⟨{ cls := .type "list", data := .seq vs.toArray }, if_pos rfl⟩)) (fun b u z => ?_) (fun b z => ?_) fun _ => hk
    · by_cases hb : b = a
      · exact .inr ⟨_, _, if_pos hb⟩
      · exact .inl (if_neg hb)
    · by_cases hb : b = a
      · have z' := (if_pos hb).symm.trans z
        cases z'
        subst hb
        exact ⟨ha, by rw [List.length_map]; exact hl, vs, _, rv, ha⟩
      · have z' := (if_neg hb).symm.trans z
        cases z'
    · by_cases hb : b = a
      · exact hb
      · exact absurd (if_neg hb) z
theorem walk_ofG {l : PySem.W.OpenLaw} {n k : Nat} {q : Program} {loose : List Str} {XP : (Str → Option Value) → Heap → Prop} {YP : World → Heap → Prop} {d : DefRec} {x : Str}
    (hn : l.most = some n) (hn2 : n ≤ sizeLine) (hdf : d.params.defaults = []) (hr : Room k callerA)
    (F : ∀ (w : World) (mg : Str → Option Value) (fa : Addr) (h : Heap), YP w h → h.Ns mainGlobals mg → mg d.name = some (.ref fa) →
      ∃ (K : PySem.W.Frag) (fd : FuncData) (f : Fn), K.In h ∧ (∀ (s : Shared) (u : Value), BindsTo s fd ⟨[u], []⟩ [(x, u)]) ∧
        (∀ (ns : List Int), ns.length ≤ n → ∃ bs, f [.fz (.scr ns)] = .ok false (.bl true) bs) ∧
        ∀ base : Heap, K.In base → base.Ns mainGlobals mg → FnG l.prog w K mg base k fa fd [x] (spD K mg 1 f)) :
    PySem.W.WalkO q loose XP YP l.row.toRowW d [] (fun f vs => PySem.call f vs) := by
  refine Att.attach_call hn hdf fun w s₀ s₁ mg mb fa o pm cd doc a vs ns G Y ho hd hcd hmg hobj hints hlen hg => ?_
  obtain ⟨K, fd, f, KX, hb, hf, hF⟩ := F w mg fa _ Y G.T.g hmg
  exact law_callG KX G.T.g G.T.b G.T.builtins G.T.nolimit hg hobj hints (Nat.le_trans hlen hn2) hr hF hb (hf ns hlen)
end DL

namespace DL
open PySem PySem.Spec PyProof.Rows L2

/-! ### defs by their data -/
structure Gf (P : Program) (w : World) (K : PySem.W.Frag) (mg : Str → Option Value) (base : Heap) (k : Nat) (x : Str) (n : Nat) (f : Fn) : Prop where
  ex : ∃ fa fd ps, FnG P w K mg base k fa fd ps (spD K mg n f) ∧ mg x = some (.ref fa) ∧ PySem.W.keepIn K (.ref fa) = true ∧ Binds K fd ps []
theorem Gf.cl {X : Cx} {j k : Nat} {x : Str} {n : Nat} {f : Fn} (g : Gf X.prog X.w X.K X.mg X.base k x n f) (hr : Room j X.A) (h : k ≤ j) (hg : X.A.guards = some []) : Cl X x n f := by
  obtain ⟨fa, fd, ps, F, hm, hk, hb⟩ := g.ex
  exact ⟨k, fa, fd, ps, F, hr.mono h, hg, hm, hk, hb⟩
section
variable {P : Program} {w : World} {K : PySem.W.Frag} {mg : Str → Option Value} {base : Heap}
theorem fn_Dd {x qual : Str} {params : Arguments} {body : List Stmt} {scope : Scope} {dvs : List V} {kws : List (Str × V)} {f : Addr} {fd : FuncData} {N ps : List Str} {k : Nat} {φ : M Ctl} (F : FunD K x qual params body scope dvs kws f fd) (S : FnScope N ps scope)
    (hbody : ∀ (cdv : Value) (A : Around) (outer : List PySem.Env) (s : Shared) (H : Hp) (E : XK) (b : Bs), Fit (cxOf (L2.CX P w) P w K mg base N qual scope f cdv A outer s H E) b →
      Bd (cxOf (L2.CX P w) P w K mg base N qual scope f cdv A outer s H E) (fun c d _ H => E c d H) k →
      PSs (cxOf (L2.CX P w) P w K mg base N qual scope f cdv A outer s H E) body (tS b (fun c d _ H => E c d H) φ)) : FnG P w K mg base (k + 1) f fd ps (spD K mg ps.length (runB N.length φ)) := by
  obtain ⟨oc, od, dV, kV, doc, pm, an, cdv, ct, osl, rfl, lk, hcd, _, _⟩ := F.ex
  refine fnG_of lk hcd S (fun vs H Q E h => h.1) fun A outer s H vs Q E hr hgd h => ?_
  obtain ⟨hl, F0, ks, sb, AA, nd, h⟩ := h
  exact ⟨_, hbody cdv A outer s H E (bsOf K mg F0 H ks vs) ⟨rfl, rfl⟩ ⟨takes_of rfl rfl rfl rfl, passes_of rfl, hr, hgd⟩, body_run sb AA nd h⟩
theorem Gf.of {x : Str} {params : Arguments} {body : List Stmt} {scope : Scope} {kws : List (Str × V)} {f : Addr} {fd : FuncData} {ps : List Str} {k n : Nat} {g : Fn} (F : FunD K x x params body scope [] kws f fd) (hm : mg x = some (.ref f))
    (hb : ∀ (kV doc pm : Value) (an : Option Addr) (cdv ct : Value) (us : List Value), us.length = ps.length → bindArgs (PySem.W.fnOf x x params body scope .none kV doc pm an cdv ct) ⟨us, []⟩ = pure (ps.zip us))
    (h : FnG P w K mg base k f fd ps (spD K mg n g)) : Gf P w K mg base k x n g := ⟨f, fd, ps, h, hm, F.kp, F.bindsN hb⟩
/-- a def that is never called with success -/
theorem fnG_no {f : Addr} {fd : FuncData} {ps : List Str} {n k : Nat} (hl : ps.length = n) : FnG P w K mg base k f fd ps (spD K mg n fun _ => .no) :=
  ⟨fun vs H Q E h => h.1.trans hl.symm, fun A outer s H args us vs Q E _ _ _ _ _ h => by
    obtain ⟨_, _, _, _, _, _, h⟩ := h
    exact h.elim⟩
end
/-! ### facts of the top -/
theorem glo_int {X : Cx} {x : Str} {i : Int} (h : ∃ t, X.mg x = some (.int i t)) : GloD X x (.int i) := by
  obtain ⟨t, h⟩ := h
  exact ⟨_, .int i, h, ⟨t, rfl⟩, fun F => by unfold Rep; rfl⟩
theorem glo_str {X : Cx} {x z : Str} (h : ∃ t, X.mg x = some (.str z t)) : GloD X x (.str z) := by
  obtain ⟨t, h⟩ := h
  exact ⟨_, .str z, h, ⟨t, rfl⟩, fun F => by unfold Rep; rfl⟩
/-- flat data as a value -/
def flD : D → V
  | .non => .non
  | .bl b => .bl b
  | .int i => .int i
  | .str s => .str s
  | _ => .non
def isFl : D → Bool
  | .non => true
  | .bl _ => true
  | .int _ => true
  | .str _ => true
  | _ => false
theorem flD_rep {K : PySem.W.Frag} {mg : Str → Option Value} {F : Hp} : ∀ {ds : List D}, ds.all isFl = true → RepL K mg F ds (ds.map flD)
  | [], _ => by show RepL K mg F [] []; unfold RepL; rfl
  | d :: ds, h => by
    rw [List.all_cons, Bool.and_eq_true] at h
    rw [List.map_cons]
    unfold RepL
    refine ⟨_, _, rfl, ?_, flD_rep h.2⟩
    cases d <;> first
      | (unfold Rep; rfl)
      | cases h.1
theorem glo_tup {X : Cx} {x : Str} {a : Addr} {ds : List D} (hm : X.mg x = some (.ref a)) (h : ∀ H, SqT X.K H a (ds.map flD)) (hf : ds.all isFl = true) : GloD X x (.tup ds) :=
  ⟨_, .ref a, hm, rfl, fun F => by unfold Rep; exact ⟨a, _, rfl, h F, flD_rep hf⟩⟩
/-! ### a head with more facts -/
abbrev AlX : Type := Bool × He.AlD
def obsX (fa : List He.Fa) (fn : List He.DefD) (ex : List (PySem.W.Frag → Bool)) (K : PySem.W.Frag) : AlX := (ex.all fun t => t K, He.obsD fa fn K)
def valX (fn : List He.DefD) : AlX := (true, He.valD fn)
def SaysX (fa : List He.Fa) (fn : List He.DefD) (ex : List (PySem.W.Frag → Bool)) (K : PySem.W.Frag) : Prop := obsX fa fn ex K = valX fn
def obsXG (n : Nat) (fa : List He.Fa) (fn : List He.DefD) (ex : List (PySem.W.Frag → Bool)) (g : Addr → Option Obj) : AlX := obsX fa fn ex (He.frG g (He.asD g n))
def hookX (n : Nat) (fa : List He.Fa) (fn : List He.DefD) (ex : List (PySem.W.Frag → Bool)) : PySem.W.Hook where
  α := AlX
  obs := fun s => obsXG n fa fn ex s.heap.get?
  val := fun _ => valX fn
  says := fun _ h => ∃ K : PySem.W.Frag, K.In h ∧ SaysX fa fn ex K
  of := fun _ _ e => ⟨_, He.frG_in, e⟩
  keeps := fun _ _ _ ⟨K, hK, c⟩ k => ⟨K, PySem.W.Frag.In.keeps hK k, c⟩
theorem obsXG_eq {n : Nat} {fa : List He.Fa} {fn : List He.DefD} {ex : List (PySem.W.Frag → Bool)} {g : Addr → Option Obj} {s : Shared} (h : ∀ a, g a = s.heap.get? a) : obsXG n fa fn ex g = (hookX n fa fn ex).obs s := by
  have e : g = s.heap.get? := funext h
  rw [e] <;> rfl
section
variable {fa : List He.Fa} {fn : List He.DefD} {ex : List (PySem.W.Frag → Bool)} {K : PySem.W.Frag}
theorem SaysX.d (c : SaysX fa fn ex K) : He.SaysD fa fn K := congrArg (fun z : AlX => z.2) c
theorem SaysX.extra (c : SaysX fa fn ex K) (i : Nat) {t : PySem.W.Frag → Bool} (h : ex[i]? = some t := by rfl) : t K = true := by
  have c1 : (ex.all fun t => t K) = true := congrArg (fun z : AlX => z.1) c
  exact List.all_eq_true.mp c1 t (List.mem_of_getElem? h)
end
theorem xcD_of {X : Cx} {x : Str} (hm : X.mg x = some (.ref (He.ga X.K x))) (h : PySem.W.excIn X.K (He.ga X.K x) He.veBase "ValueError.__new__" = true ∧ PySem.W.keepIn X.K (.ref (He.ga X.K x)) = true ∧ PySem.W.subIn X.K (.ref (He.ga X.K x)) (.type "BaseException") = some true ∧
    PySem.W.typeIn X.K (.ref (He.ga X.K x)) = some (.type "type")) : XcD X x := ⟨He.ga X.K x, He.veBase, "ValueError", "ValueError.__new__", "ValueError.__init__", h.1, hm, h.2.1, raises_own h.2.2.1 h.2.2.2, PySem.F.excBase_ValueError⟩
end DL

namespace DL
open PySem PySem.Spec PyProof.Rows L2

/-! ### DL20: a written triple of names; blocks within blocks -/
section
variable {X : Cx} {b : Bs} {W : WX} {pos : Pos}
/-- x, y, z = a, c, d with plain local names -/
theorem ds_par3 {i j l : Nat} {x y z : Str} {a c d : Expr} {φ : M (List AV)} {px py pz pt : Pos} {kt k2 pt2} (hc : X.calm = true) (hN : X.N.Nodup) (hi : X.N[i]? = some x) (hj : X.N[j]? = some y) (hl : X.N[l]? = some z) (hij : i ≠ j) (hil : i ≠ l) (hjl : j ≠ l)
    (hx : X.env.scope.names.lookup x = some .local) (hy : X.env.scope.names.lookup y = some .local) (hz : X.env.scope.names.lookup z = some .local) (ha : PA X [a, c, d] (tR W φ b))
    (hw : swappedStores [.Tuple [.Name x px, .Name y py, .Name z pz] kt pt] (.Tuple [a, c, d] k2 pt2) X.env = pure (some [x, y, z]))
    (hs : swapsWithSole [.Tuple [.Name x px, .Name y py, .Name z pz] kt pt] (.Tuple [a, c, d] k2 pt2) pos.line X.env = pure false := by rfl) :
    PS X (.Assign [.Tuple [.Name x px, .Name y py, .Name z pz] kt pt] (.Tuple [a, c, d] k2 pt2) pos) (tS b W (mPar [i, j, l] φ)) := by
  refine weakS (L2.ps_par3 hc hN hi hj hl hij hil hjl hx hy hz ha hw hs) fun D σ H ⟨F, ρ, k, h⟩ => ?_
  refine runSR k h fun avs vs ρ1 F1 H1 k1 s1 r1 h1 => ?_
  obtain ⟨hl, q⟩ := Then.asgs k1 r1 h1
  match vs, hl with
  | [u, v, w], _ => exact ⟨u, v, w, rfl, q⟩
end
theorem blk_sc {N N' : List Str} {sc sc' scope : Scope} {own : List (Str × Nat)} (h1 : N = N') (h2 : sc = sc') (h : BlkOk N' sc' scope own) : BlkOk N sc scope own := by
  subst h1
  subst h2
  exact h
theorem hu1 {n c : Nat} (h : n + 64 < c) : n + 1 < c := by omega
end DL

namespace DL
open PySem PySem.Spec PyProof.Rows L2

/-! ### DL21: exceptions with fields: raised, caught by a name, read -/
/-- what the top says of such a class -/
def oexB (K : PySem.W.Frag) (C : Addr) : Bool := (match K.lookup C with
  | some ⟨.type t, _, .cls cd, sl⟩ => decide (t = "type") && (match cd.mro, sl.toList with
    | .ref C' :: bm, [_, _, _, _, some (.builtin n), _] => decide (C' = C) && (decide (n = "ValueError.__new__") && (!cd.hasDel && (cd.hasDict && PySem.HandSPX.refsVE bm)))
    | _, _ => false)
  | _ => false) && (decide (PySem.W.findIn K (.ref C) "__setattr__" = some (some (.builtin "object.__setattr__"))) && (decide (PySem.W.subIn K (.ref C) (.type "BaseException") = some true) && (decide (PySem.W.typeIn K (.ref C) = some (.type "type")) && PySem.W.keepIn K (.ref C))))
theorem oexB_ok {K : PySem.W.Frag} {C : Addr} (h : oexB K C = true) : OexC K C := by
  unfold oexB at h
  rw [Bool.and_eq_true] at h
  obtain ⟨h0, h⟩ := h
  rw [Bool.and_eq_true] at h
  obtain ⟨h1, h⟩ := h
  rw [Bool.and_eq_true] at h
  obtain ⟨h2, h⟩ := h
  rw [Bool.and_eq_true] at h
  obtain ⟨h3, h4⟩ := h
  refine ⟨?_, of_decide_eq_true h1, of_decide_eq_true h2, of_decide_eq_true h3, h4⟩
  split at h0
  · rename_i t dd cd sl ho
    rw [Bool.and_eq_true] at h0
    obtain ⟨ht, h0⟩ := h0
    have ht := of_decide_eq_true ht
    subst ht
    split at h0
    · rename_i C' bm k0 k1 k2 k3 n k5 hm hs
      simp only [Bool.and_eq_true, decide_eq_true_eq, Bool.not_eq_true'] at h0
      obtain ⟨rfl, rfl, hdel, hd, hb⟩ := h0
      obtain ⟨nm, bs, mro, ns, qn, hdct, sn, sub, ab, col, del⟩ := cd
      dsimp only at hm hdel hd
      subst hm hdel hd
      have hsl : sl = #[k0, k1, k2, k3, some (.builtin "ValueError.__new__"), k5] := by
        obtain ⟨l⟩ := sl
        simp only at hs
        rw [hs]
      subst hsl
      exact ⟨nm, qn, ns, bs, bm, sn, sub, ab, col, dd, k0, k1, k2, k3, k5, ho, hb⟩
    · cases h0
  · cases h0
/-- an __init__ that stores its parameters -/
def spInit (C : Addr) (fs : List Str) : Sp := fun vs H Q _ => ∃ (a : Addr) (ys : List V), vs = .ref a :: ys ∧ ys.length = fs.length ∧ H a = some (exo a C none) ∧
  ∀ dx H', H dx = none → dx ≠ a → H' a = some (exo a C (some dx)) → H' dx = some (exd dx (fs.zip ys).reverse) → (∀ b, b ≠ a → b ≠ dx → H' b = H b) → Q .non H'
structure Xf (P : Program) (w : World) (K : PySem.W.Frag) (mg : Str → Option Value) (base : Heap) (x : Str) (fs : List Str) : Prop where
  ex : ∃ C fI fd ps, mg x = some (.ref C) ∧ OexC K C ∧ XfC K C ∧ (∀ f ∈ fs, PySem.W.findIn K (.ref C) f = some none) ∧ PySem.W.findIn K (.ref C) "__init__" = some (some (.ref fI)) ∧ PySem.W.typeIn K (.ref fI) = some (.type "function") ∧
    FnOk P w K mg base CX0 2 fI fd ps (spInit C fs) ∧ Binds K fd ps []
section
variable {P : Program} {w : World} {K : PySem.W.Frag} {mg : Str → Option Value} {base : Heap} {C fI : Addr} {fd : FuncData} {q : Str} {params : Arguments} {scope : Scope}
theorem zip1 {f : Str} {y : V} : ([f].zip [y]).reverse = [(f, y)] := rfl
theorem init1 {f : Str} {body : List Stmt} {q1 q2 q3 q4 : Pos} (F : FunD K "__init__" q params body scope [] [] fI fd) (eb : body = [.Assign [.Attribute (.Name "self" q1) f q2] (.Name f q3) q4]) (S : FnScope ["self", f] ["self", f] scope) (lf : scope.names.lookup f = some .local) (ls : scope.names.lookup ("self" : Str) = some NameKind.local) (hdb : (f == ("__debug__" : Str)) = false) (hcd : (f == ("__classdict__" : Str)) = false)
    (T : OexC K C) (hno : PySem.W.findIn K (.ref C) f = some none) : FnOk P w K mg base CX0 2 fI fd ["self", f] (spInit C [f]) := by
  subst eb
  refine FunD.ok F S (fun vs H Q E ⟨a, ys, e, hl, _⟩ => by rw [e]; simp [hl]) fun cdv A outer s H vs Q E hr hsp => ?_
  refine ⟨_, pss_one (ps_ost (pe_var (i := 0) rfl (.inl ls)) (pe_var (i := 1) rfl (.inl lf) hdb hcd)), ?_⟩
  obtain ⟨a, ys, rfl, hl, ea, hq⟩ := hsp
  match ys, hl with
  | [y], _ =>
  refine ⟨y, rfl, .ref a, rfl, a, C, rfl, T, hno, .inl ⟨ea, fun dx hd hne => ?_⟩⟩
  exact hq dx _ hd hne upd_same (by rw [upd_ne hne, upd_same]; rfl) fun b h1 h2 => by rw [upd_ne h1, upd_ne h2]
theorem init2 {f g : Str} {body : List Stmt} {q1 q2 q3 q4 r1 r2 r3 r4 : Pos} (F : FunD K "__init__" q params body scope [] [] fI fd) (eb : body = [.Assign [.Attribute (.Name "self" q1) f q2] (.Name f q3) q4, .Assign [.Attribute (.Name "self" r1) g r2] (.Name g r3) r4]) (S : FnScope ["self", f, g] ["self", f, g] scope)
    (lf : scope.names.lookup f = some .local) (lg : scope.names.lookup g = some .local) (ls : scope.names.lookup ("self" : Str) = some NameKind.local) (hdb : (f == ("__debug__" : Str)) = false) (hcd : (f == ("__classdict__" : Str)) = false) (hdb2 : (g == ("__debug__" : Str)) = false) (hcd2 : (g == ("__classdict__" : Str)) = false)
    (T : OexC K C) (hno : PySem.W.findIn K (.ref C) f = some none) (hno2 : PySem.W.findIn K (.ref C) g = some none) : FnOk P w K mg base CX0 2 fI fd ["self", f, g] (spInit C [f, g]) := by
  subst eb
  refine FunD.ok F S (fun vs H Q E ⟨a, ys, e, hl, _⟩ => by rw [e]; simp [hl]) fun cdv A outer s H vs Q E hr hsp => ?_
  refine ⟨_, pss_cons (ps_ost (pe_var (i := 0) rfl (.inl ls)) (pe_var (i := 1) rfl (.inl lf) hdb hcd)) (pss_one (ps_ost (pe_var (i := 0) rfl (.inl ls)) (pe_var (i := 2) rfl (.inl lg) hdb2 hcd2))), ?_⟩
  obtain ⟨a, ys, rfl, hl, ea, hq⟩ := hsp
  match ys, hl with
  | [y, z], _ =>
  refine ⟨y, rfl, .ref a, rfl, a, C, rfl, T, hno, .inl ⟨ea, fun dx hd hne => ?_⟩⟩
  refine ⟨z, rfl, .ref a, rfl, a, C, rfl, T, hno2, .inr ⟨dx, [(f, y)], upd_same, by rw [upd_ne hne, upd_same], by simp, ?_⟩⟩
  exact hq dx _ hd hne (by rw [upd_ne (Ne.symm hne), upd_same]) (by rw [upd_same]; rfl) fun b h1 h2 => by rw [upd_ne h2, upd_ne h1, upd_ne h2]
theorem Xf.mk' {x : Str} {fs ps : List Str} (gm : mg x = some (.ref C)) (T : OexC K C) (T2 : xfB K C = true) (hno : ∀ f ∈ fs, PySem.W.findIn K (.ref C) f = some none) (iC : PySem.W.findIn K (.ref C) "__init__" = some (some (.ref fI))) (tI : PySem.W.typeIn K (.ref fI) = some (.type "function"))
    (F : FnOk P w K mg base CX0 2 fI fd ps (spInit C fs)) (hb : Binds K fd ps []) : Xf P w K mg base x fs := ⟨C, fI, fd, ps, gm, T, xfB_ok T2, hno, iC, tI, F, hb⟩
end
/-! raise X(e, ..) -/
def mRaiseF (x : Str) (fs : List Str) (φ : M (List AV)) : M Ctl := φ.bnd fun avs => (frzAll avs).bnd fun ds => if ds.length = fs.length then (fun ρ => .ex ⟨x, (fs.zip ds).reverse⟩ ρ) else M.stuck
theorem RepF.append {K : PySem.W.Frag} {mg : Str → Option Value} {F : Hp} : ∀ {fs gs : List (Str × D)} {vs us : List (Str × V)}, RepF K mg F fs vs → RepF K mg F gs us → RepF K mg F (fs ++ gs) (vs ++ us)
  | [], gs, vs, us, r, q => by
    unfold RepF at r
    subst r
    exact q
  | (k, d) :: fs, gs, vs, us, r, q => by
    unfold RepF at r
    obtain ⟨v, s, rfl, h, r⟩ := r
    show RepF K mg F ((k, d) :: (fs ++ gs)) ((k, v) :: (s ++ us))
    unfold RepF
    exact ⟨v, s ++ us, rfl, h, RepF.append r q⟩
theorem RepF.zip {K : PySem.W.Frag} {mg : Str → Option Value} {F : Hp} : ∀ {fs : List Str} {ds : List D} {vs : List V}, RepL K mg F ds vs → RepF K mg F (fs.zip ds).reverse (fs.zip vs).reverse
  | [], _, _, _ => by unfold RepF; rfl
  | f :: fs, [], vs, r => by
    unfold RepL at r
    subst r
    unfold RepF
    rfl
  | f :: fs, d :: ds, vs, r => by
    unfold RepL at r
    obtain ⟨v, s, rfl, h, r⟩ := r
    rw [List.zip_cons_cons, List.zip_cons_cons, List.reverse_cons, List.reverse_cons]
    refine RepF.append (RepF.zip r) ?_
    unfold RepF
    refine ⟨v, [], rfl, h, ?_⟩
    unfold RepF
    rfl
theorem RepF.get {K : PySem.W.Frag} {mg : Str → Option Value} {F : Hp} {x : Str} {d : D} : ∀ {fs : List (Str × D)} {vs : List (Str × V)}, RepF K mg F fs vs → fs.lookup x = some d → ∃ v, vs.lookup x = some v ∧ Rep K mg F d v
  | [], _, _, h => by cases h
  | (k, e) :: fs, vs, r, h => by
    unfold RepF at r
    obtain ⟨v, s, rfl, q, r⟩ := r
    rw [List.lookup] at h
    rw [List.lookup]
    cases hx : x == k with
    | true =>
      rw [hx] at h
      cases h
      exact ⟨v, rfl, q⟩
    | false =>
      rw [hx] at h
      exact RepF.get r h
section
variable {X : Cx} {b : Bs} {W : WX} {pos : Pos}
theorem ds_raiseF {x : Str} {fs : List Str} {e : Expr} {es : List Expr} {p pos' : Pos} {φ : M (List AV)} {j : Nat} (fit : Fit X b) (tk : Takes X W) (xf : Xf X.prog X.w X.K X.mg X.base x fs) (room : Room j X.A) (hj : 3 ≤ j) (ha : PA X (e :: es) (tAs b W φ)) (hz : fs.length ≤ 10 := by decide) (hg : Gl X x := by rfl) (hdb : (x == ("__debug__" : Str)) = false := by decide) (hc : X.calm = true := by rfl)
    (he : starEach (e :: es) X.env = (false, eval e X.env) :: starEach es X.env := by rfl) (hpl : (backTo pos (starEach es X.env)).any (·.1) = false := by rfl) :
    PS X (.Raise (some (.Call (.Name x p) (e :: es) [] pos)) none pos') (tS b W (mRaiseF x fs φ)) := by
  obtain ⟨C, fI, fd, ps, gm, T, _, _, iC, tI, F1, hb⟩ := xf.ex
  refine weakS (ps_raise hc tk (pmk_oex T iC tI F1 (room.mono hj) hb .nil pass0 hg gm ha hdb he hpl)) fun D σ H ⟨F, ρ, k, h⟩ => ?_
  refine runSA k h fun avs vs ρ1 F1 H1 k1 s1 r1 h1 => ?_
  have eb : (frzAll avs).bnd M.ret = frzAll avs := funext fun ρ => by
    unfold M.bnd
    cases frzAll avs ρ <;> rfl
  have h2 := h1.bnd (σ := σ)
  rw [← eb] at h2
  obtain ⟨ds, ρ2, F2, k2, s2, r2, h2⟩ := After.frozeAll r1 k1 (Same.refl _) h2
  obtain ⟨_, h1⟩ := h2 F2 H1 k2 (Same.refl _)
  by_cases hl : ds.length = fs.length
  · rw [if_pos hl] at h1
    have lv := r2.len
    refine ⟨by omega, fun a na => ⟨a, vs ++ [], rfl, by rw [List.append_nil]; omega, upd_same, fun dx H' hd hne e1 e2 e3 => ?_⟩⟩
    rw [List.append_nil] at e2
    have hd1 : H1 dx = none := by rw [upd_ne hne] at hd; exact hd
    refine ⟨rfl, dx, _, e1, e2, hd1, ?_⟩
    have eH : upd (del H' a) dx (.xd (fs.zip vs).reverse) = upd H1 dx (.xd (fs.zip vs).reverse) := by
      funext c
      by_cases hc1 : c = dx
      · subst hc1; rw [upd_same, upd_same]
      · rw [upd_ne hc1, upd_ne hc1]
        by_cases hc2 : c = a
        · subst hc2; rw [del_same]; exact na.symm
        · rw [del_ne hc2, e3 c hc2 hc1, upd_ne hc2]
    rw [eH]
    have g := Grow.frozen (o := .xd (fs.zip vs).reverse) k2.sub hd1
    refine h1 _ _ σ _ _ (k2.grow g) g.ext ⟨C, by rw [fit.mg]; exact gm, rfl, .inr ⟨dx, _, rfl, upd_same, ?_⟩⟩
    exact (RepF.zip r2).mono g.ext
  · rw [if_neg hl] at h1
    exact h1.elim
end
end DL

namespace DL
open PySem PySem.Spec PyProof.Rows L2

/-! ### DL22: try: .. except x as n: .. -/
def isXn : Sl → Bool
  | .xn _ => true
  | _ => false
def freeAt (ρ : Env) (i : Nat) : Bool := match ρ[i]? with
  | some s => !isBo s
  | none => false
def noXn (ρ : Env) : Bool := ρ.all fun s => !isXn s
def notAt (i : Nat) : Ctl → Bool
  | .rt (.sl j) => decide (j ≠ i)
  | _ => true
def mTryAs (cs : Str → Option Bool) (i : Nat) (φ ψ : M Ctl) : M Ctl := fun ρ => match φ ρ with
  | .ex e ρ' => match cs e.c with
    | some true => if freeAt ρ' i then (match ψ (ρ'.set i (.xn e)) with
      | .ok c ρ2 => if freeAt ρ2 i && (noXn (ρ2.set i .un) && notAt i c) then .ok c (ρ2.set i .un) else .no
      | _ => .no) else .no
    | some false => .ex e ρ'
    | none => .no
  | r => r
/-- n.f, n the exception of the class x that is being handled -/
def mXf (x : Str) (i : Nat) (f : Str) : M AV := fun ρ => match ρ[i]? with
  | some (.xn e) => if e.c = x then lift ((e.fs.lookup f).map .fz) ρ else .no
  | _ => .no
def Bs.at_ (b : Bs) (a : Addr) (c : Value) (d : Option Addr) : Bs := { b with X := some (a, c, d) }
section
variable {b : Bs} {ρ : Env} {F H : Hp} {σ : L2.St} {a : Addr} {c : Value} {d : Option Addr}
theorem SlOk.at_ {s : Sl} {x : Option V} (h : b.X = none) (z : SlOk b F H s x) : SlOk (b.at_ a c d) F H s x := by
  cases s with
  | xn e => obtain ⟨_, _, _, e1, _⟩ := z; rw [h] at e1; cases e1
  | un => exact z
  | fz d => exact z
  | ow d => exact z
  | bo d => exact z
theorem Ok.at_ (k : Ok b ρ F H σ) (h : b.X = none) : Ok (b.at_ a c d) ρ F H σ := ⟨k.sub, k.old, k.ext, k.new, k.len, fun i s e => (k.slot i s e).at_ h, k.sep, k.bor, k.prot⟩
theorem SlOk.off {s : Sl} {x : Option V} (h : isXn s = false) (z : SlOk (b.at_ a c d) F H s x) : SlOk b F H s x := by
  cases s with
  | xn e => cases h
  | un => exact z
  | fz d => exact z
  | ow d => exact z
  | bo d => exact z
/-- behind the suite: the name is gone -/
theorem Ok.off {i : Nat} (k : Ok (b.at_ a c d) ρ F H σ) (hi : freeAt ρ i = true) (hx : noXn (ρ.set i .un) = true) : Ok b (ρ.set i .un) F H (σ.set i none) := by
  have hs : ∃ s, ρ[i]? = some s ∧ isBo s = false := by
    unfold freeAt at hi
    cases e : ρ[i]? with
    | none => rw [e] at hi; cases hi
    | some s => rw [e] at hi; exact ⟨s, rfl, by simpa using hi⟩
  obtain ⟨s, es, hb⟩ := hs
  refine ⟨k.sub, k.old, k.ext, k.new, by rw [List.length_set, List.length_set]; exact k.len, fun j t ej => ?_, fun j l t t' x ej el h1 h2 q1 q2 => ?_, fun p hp => ?_, fun p hp => ?_⟩
  · have nx : isXn t = false := by
      have := List.all_eq_true.mp hx t (List.mem_of_getElem? ej)
      simpa using this
    rcases set_get ej with ⟨rfl, _, rfl⟩ | ⟨hj, ej'⟩
    · trivial
    · rw [List.getElem?_set_ne (Ne.symm hj)]
      exact (k.slot j t ej').off nx
  · rcases set_get ej with ⟨rfl, _, rfl⟩ | ⟨hj, ej'⟩
    · cases h1
    · rcases set_get el with ⟨rfl, _, rfl⟩ | ⟨hl, el'⟩
      · cases h2
      · rw [List.getElem?_set_ne (Ne.symm hj)] at q1
        rw [List.getElem?_set_ne (Ne.symm hl)] at q2
        exact k.sep j l t t' x ej' el' h1 h2 q1 q2
  · obtain ⟨e1, d', e2⟩ := k.bor p hp
    have hne : p.1 ≠ i := fun w => by
      rw [w, es] at e2; cases e2; cases hb
    exact ⟨by rw [List.getElem?_set_ne (Ne.symm hne)]; exact e1, d', by rw [List.getElem?_set_ne (Ne.symm hne)]; exact e2⟩
  · obtain ⟨h1, h2, h3⟩ := k.prot p hp
    refine ⟨h1, h2, fun j t ej hs w => ?_⟩
    rcases set_get ej with ⟨rfl, _, rfl⟩ | ⟨hj, ej'⟩
    · cases hs
    · rw [List.getElem?_set_ne (Ne.symm hj)] at w
      exact h3 j t ej' hs w
theorem RepA.off {i : Nat} {av : AV} {v : V} (r : RepA (b.at_ a c d) F H σ ρ av v) (hn : notAt i (.rt av) = true) : RepA b F H (σ.set i none) (ρ.set i .un) av v := by
  cases av with
  | fz x => exact r
  | sl j =>
    have hj : j ≠ i := of_decide_eq_true hn
    show (σ.set i none)[j]? = _
    rw [List.getElem?_set_ne (Ne.symm hj)]
    exact r
  | ow x =>
    obtain ⟨p, e, n, n0, oa, ap, hp⟩ := r
    refine ⟨p, e, n, n0, oa, fun j t ej hs w => ?_, hp⟩
    rcases set_get ej with ⟨rfl, _, rfl⟩ | ⟨hj, ej'⟩
    · cases hs
    · rw [List.getElem?_set_ne (Ne.symm hj)] at w
      exact ap j t ej' hs w
end
section
variable {X : Cx} {b : Bs} {W : WX} {pos : Pos}
theorem ds_tryAs {x n : Str} {c : Value} {i : Nat} {body suite : List Stmt} {b₀ : Stmt} {np pos pos' : Pos} {φ ψ : M Ctl} {cs : Str → Option Bool} (fit : Fit X b) (bx : b.X = none) (hs : X.stack = X.env :: X.outer) (hf : X.env.frame = some X.env.locals) (hN : X.N.Nodup) (hi : X.N[i]? = some n) (hln : X.env.kindOf n = some .local)
    (hc : Names X x c) (tk : Takes X W) (ct : Catch X c cs)
    (hb : ∀ (W : WX) (pn : List (Addr × Obj)) (xe : Value → Shared → Prop), Takes (X.tr pn xe) W → PassesOwn (model X.prog X.w) X.A X.env xe → PSs (X.tr pn xe) body (tS b W φ))
    (hsu : ∀ (a : Addr) (oe : Obj) (cls : Value) (d : Option Addr) (pn : List (Addr × Obj)), Zc cls d oe → (∃ vs, oe.data = .fields vs) → PSs (X.suite a ((a, oe) :: pn)) (b₀ :: suite) (tS (b.at_ a cls d) W0 ψ)) :
    PS X (.Try body [.ExceptHandler (some (.Name x np)) (some n) (b₀ :: suite) pos'] [] [] pos) (tS b W (mTryAs cs i φ ψ)) := by
  refine weakS (ps_try_as (ts := fun a cls d => tS (b.at_ a cls d) W0 ψ) hs hf hN hi hln hc tk hb hsu) fun D σ H ⟨F, ρ, k, h⟩ => ?_
  refine ⟨F, ρ, k, ?_⟩
  unfold mTryAs at h
  cases e : φ ρ with
  | no => rw [e] at h; exact h.elim
  | ok ctl ρ' =>
    rw [e] at h
    cases ctl with
    | nx => exact h
    | bk => exact h
    | ct => exact h
    | rt av => exact h
  | ex x ρ' =>
    simp only [e] at h
    intro cls dd σ' F' H' k' s' ex
    obtain ⟨C, mC, ec, er⟩ := ex
    subst ec
    cases ecs : cs x.c with
    | none => simp only [ecs] at h; exact h.elim
    | some r =>
      have hx := ct x.c C r (by rw [← fit.mg]; exact mC) ecs
      refine ⟨r, hx, fun hr a na => ?_, fun hr => ?_⟩
      · subst hr
        simp only [ecs] at h
        cases hfr : freeAt ρ' i with
        | false => rw [hfr] at h; simp only [Bool.false_eq_true, if_false] at h; exact h.elim
        | true =>
        rw [hfr] at h
        simp only [if_true] at h
        have hsl : ∃ s, ρ'[i]? = some s ∧ isBo s = false := by
          unfold freeAt at hfr
          cases e0 : ρ'[i]? with
          | none => rw [e0] at hfr; cases hfr
          | some s => rw [e0] at hfr; exact ⟨s, rfl, by simpa using hfr⟩
        obtain ⟨s0, es0, hb0⟩ := hsl
        have k1 : Ok (b.at_ a (.ref C) dd) (ρ'.set i (.xn x)) F' H' (σ'.set i (some (.ref a))) := (k'.at_ bx).setSlot (s' := .xn x) (v := .ref a) es0 hb0 rfl ⟨a, .ref C, dd, rfl, rfl, C, mC, rfl, er⟩ (fun q => Bool.noConfusion q)
        refine ⟨F', _, k1, ?_⟩
        cases e3 : ψ (ρ'.set i (.xn x)) with
        | no => rw [e3] at h; exact h.elim
        | ex y ρ2 => rw [e3] at h; exact h.elim
        | ok ctl ρ2 =>
          rw [e3] at h
          dsimp only at h
          by_cases hg : (freeAt ρ2 i && (noXn (ρ2.set i .un) && notAt i ctl)) = true
          · rw [if_pos hg] at h
            rw [Bool.and_eq_true, Bool.and_eq_true] at hg
            obtain ⟨g1, g2, g3⟩ := hg
            cases ctl with
            | nx => exact fun σ2 F2 H2 k2 s2 => h _ F2 H2 (k2.off g1 g2) (s'.trans s2)
            | bk => exact fun σ2 F2 H2 k2 s2 => h _ F2 H2 (k2.off g1 g2) (s'.trans s2)
            | ct => exact fun σ2 F2 H2 k2 s2 => h _ F2 H2 (k2.off g1 g2) (s'.trans s2)
            | rt av => exact fun v σ2 F2 H2 k2 s2 r2 => h v (σ2.set i none) F2 H2 (k2.off g1 g2) (s'.trans s2) (r2.off g3)
          · rw [if_neg hg] at h
            exact h.elim
      · subst hr
        simp only [ecs] at h
        exact h _ _ σ' F' H' k' s' ⟨C, mC, rfl, er⟩
/-- n.f in the suite -/
theorem de_xf {x n f : Str} {i : Nat} {a : Addr} {oe : Obj} {cls : Value} {d : Option Addr} {pn : List (Addr × Obj)} {fs : List Str} {p : Pos} (fit : Fit X b) (xf : Xf X.prog X.w X.K X.mg X.base x fs) (hfs : f ∈ fs) (hz : Zc cls d oe) (hf : ∃ vs, oe.data = .fields vs) (he : PE (X.suite a ((a, oe) :: pn)) (.Name n p) (tVar i))
    (hb : attributeBase (.Name n p) f X.env (eval (.Name n p) X.env) = eval (.Name n p) X.env := by rfl) : PE (X.suite a ((a, oe) :: pn)) (.Attribute (.Name n p) f pos) (tE (b.at_ a cls d) W (mXf x i f)) := by
  obtain ⟨C, fI, fd, ps, gm, T, T2, hno, iC, tI, F1, hb1⟩ := xf.ex
  refine weakE (pe_xf T2 (hno f hfs) hz hf he hb) fun σ H Q ⟨F, ρ, k, h⟩ => ?_
  unfold mXf at h
  cases e : ρ[i]? with
  | none => rw [e] at h; exact h.elim
  | some s =>
    rw [e] at h
    cases s with
    | un => exact h.elim
    | fz _ => exact h.elim
    | ow _ => exact h.elim
    | bo _ => exact h.elim
    | xn y =>
      have h : After (b.at_ a cls d) W σ F ((if y.c = x then lift ((y.fs.lookup f).map .fz) ρ else .no : R AV)) _ := h
      by_cases hc : y.c = x
      · rw [if_pos hc] at h
        obtain ⟨a', c', dd', e1, e2, C', mC, ec, er⟩ := k.slot i _ e
        cases e1
        refine ⟨.ref a, getD_ref e2, rfl, ?_⟩
        have hC : C' = C := by
          rw [hc] at mC
          have mC : b.mg x = some (.ref C') := mC
          rw [fit.mg, gm] at mC
          cases mC; rfl
        subst hC
        refine ⟨ec, ?_⟩
        cases el : y.fs.lookup f with
        | none => rw [el] at h; exact h.elim
        | some dv =>
          rw [el] at h
          rcases er with er | ⟨d2, vs, ed, q, r⟩
          · rw [er] at el; cases el
          · obtain ⟨v, ev, rv⟩ := r.get el
            have hH : H d2 = some (.xd vs) := by
              rcases k.sub d2 _ q with z | ⟨_, _, z, _⟩
              · exact z
              · cases z
            exact ⟨d2, vs, v, ed, hH, ev, h F H k (Same.refl _) v rv⟩
      · rw [if_neg hc] at h
        exact h.elim
end
end DL

namespace DL
open PySem PySem.Spec PyProof.Rows L2

/-! ### DL23: own classes: instances made, fields, methods, properties -/
def insF (c : Str) : D → Option (List (Str × D))
  | .ins c' fs => if c' = c then some fs else none
  | _ => none
theorem RepF.none {K : PySem.W.Frag} {mg : Str → Option Value} {F : Hp} {x : Str} : ∀ {fs : List (Str × D)} {vs : List (Str × V)}, RepF K mg F fs vs → fs.lookup x = Option.none → vs.lookup x = Option.none
  | [], vs, r, _ => by
    unfold RepF at r
    subst r
    rfl
  | (k, e) :: fs, vs, r, h => by
    unfold RepF at r
    obtain ⟨v, s, rfl, q, r⟩ := r
    rw [List.lookup] at h
    rw [List.lookup]
    cases hx : x == k with
    | true => rw [hx] at h; cases h
    | false =>
      rw [hx] at h
      exact RepF.none r h
/-- an instance as data, in the heap -/
theorem RepD.ins {K : PySem.W.Frag} {mg : Str → Option Value} {F H : Hp} {c : Str} {fs : List (Str × D)} {v : V} (s : Sub F H) (r : RepD K mg F H (.ins c fs) v) : ∃ a C dx vs, v = .ref a ∧ mg c = some (.ref C) ∧ H a = some (.ins C dx vs) ∧ RepF K mg F fs vs := by
  rcases r with r | ⟨a, rfl, C, dx, vs, m, h, r⟩
  · unfold Rep at r
    obtain ⟨a, C, dx, vs, e, m, h, r⟩ := r
    exact ⟨a, C, dx, vs, e, m, s.ins h, r⟩
  · exact ⟨a, C, dx, vs, rfl, m, h, r⟩
/-- what the top says of a class's field, of its methods -/
structure ClF (X : Cx) (c f : Str) : Prop where
  ex : ∃ C, X.mg c = some (.ref C) ∧ Cls X.K C ∧ NoAttr X.K C f
structure ClM (P : Program) (w : World) (K : PySem.W.Frag) (mg : Str → Option Value) (base : Heap) (k : Nat) (c m : Str) (n : Nat) (f : Fn) : Prop where
  ex : ∃ C fa fd ps, mg c = some (.ref C) ∧ Cls K C ∧ Meth K C m fa ∧ FnG P w K mg base k fa fd ps (spD K mg n f) ∧ Binds K fd ps []
structure ClI (P : Program) (w : World) (K : PySem.W.Frag) (mg : Str → Option Value) (base : Heap) (k : Nat) (c : Str) (n : Nat) (f : Fn) : Prop where
  ex : ∃ C fa fd ps, mg c = some (.ref C) ∧ Mk K C fa ∧ FnG P w K mg base k fa fd ps (spD K mg n f) ∧ Binds K fd ps []
structure ClP (P : Program) (w : World) (K : PySem.W.Frag) (mg : Str → Option Value) (base : Heap) (k : Nat) (c m : Str) (f : Fn) : Prop where
  ex : ∃ C p g fd ps, mg c = some (.ref C) ∧ Cls K C ∧ PropOf K C m p g ∧ FnG P w K mg base k g fd ps (spD K mg 1 f) ∧ Binds K fd ps []
/-! o.f -/
def fldD (c f : Str) (d : D) : Option AV := (insF c d).bind fun fs => (fs.lookup f).map .fz
def mFld (c f : Str) (φ : M AV) : M AV := φ.bnd fun a => (rd (stab a)).bnd fun d => lift (fldD c f d)
section
variable {X : Cx} {b : Bs} {W : WX} {pos : Pos}
theorem de_fld {c f : Str} {e : Expr} {φ : M AV} (fit : Fit X b) (cf : ClF X c f) (he : PE X e (tE b W φ)) (hb : attributeBase e f X.env (eval e X.env) = eval e X.env := by rfl) : PE X (.Attribute e f pos) (tE b W (mFld c f φ)) := by
  obtain ⟨C, gC, cl, na⟩ := cf.ex
  refine weakE (pe_fld he hb) fun σ H Q ⟨F, ρ, k, h⟩ => ?_
  refine runE k h fun av v ρ1 F1 H1 k1 s1 r1 h1 => ?_
  obtain ⟨F2, k2, s2, r2⟩ := k1.stab r1
  obtain ⟨d, q, h2⟩ := (h1.later s2).read k2 r2
  cases d with
  | ins c' fs =>
    have h2 : After b W σ F2 (lift ((if c' = c then some fs else none).bind fun fs => (fs.lookup f).map AV.fz) ρ1) _ := h2
    by_cases hc : c' = c
    · subst hc
      rw [if_pos rfl] at h2
      obtain ⟨a, C', dx, vs, rfl, m, hH, rf⟩ := RepD.ins k2.sub q
      rw [fit.mg, gC] at m
      cases m
      have h2 : After b W σ F2 (lift ((fs.lookup f).map AV.fz) ρ1) _ := h2
      cases el : fs.lookup f with
      | none => rw [el] at h2; exact h2.elim
      | some dv =>
        rw [el] at h2
        obtain ⟨v, ev, rv⟩ := rf.get el
        exact ⟨a, C, dx, vs, v, rfl, hH, cl, na, ev, h2 F2 H1 k2 (Same.refl _) v rv⟩
    · rw [if_neg hc] at h2
      exact h2.elim
  | _ => exact h2.elim
end
/-! self.f = e -/
def putFD (f : Str) (v : D) : List (Str × D) → List (Str × D)
  | [] => [(f, v)]
  | (g, x) :: r => if g = f then (g, v) :: r else (g, x) :: putFD f v r
theorem RepF.put {K : PySem.W.Frag} {mg : Str → Option Value} {F : Hp} {f : Str} {d : D} {v : V} (h : Rep K mg F d v) : ∀ {fs : List (Str × D)} {vs : List (Str × V)}, RepF K mg F fs vs → RepF K mg F (putFD f d fs) (putF f v vs)
  | [], vs, r => by
    unfold RepF at r
    subst r
    show RepF K mg F [(f, d)] [(f, v)]
    unfold RepF
    refine ⟨v, [], rfl, h, ?_⟩
    unfold RepF
    rfl
  | (k, e) :: fs, vs, r => by
    unfold RepF at r
    obtain ⟨u, s, rfl, q, r⟩ := r
    unfold putFD putF
    by_cases hk : k = f
    · rw [if_pos hk, if_pos hk]
      unfold RepF
      exact ⟨v, s, rfl, h, r⟩
    · rw [if_neg hk, if_neg hk]
      unfold RepF
      exact ⟨u, putF f v s, rfl, q, RepF.put h r⟩
theorem RepF.len {K : PySem.W.Frag} {mg : Str → Option Value} {F : Hp} : ∀ {fs : List (Str × D)} {vs : List (Str × V)}, RepF K mg F fs vs → fs.length = vs.length
  | [], vs, r => by
    unfold RepF at r
    subst r
    rfl
  | (k, e) :: fs, vs, r => by
    unfold RepF at r
    obtain ⟨u, s, rfl, q, r⟩ := r
    rw [List.length_cons, List.length_cons, RepF.len r]
def mSetF (c f : Str) (i : Nat) (φ : M AV) : M Ctl := φ.bnd fun av => (frz av).bnd fun d => fun ρ => match ρ[i]? with
  | some s => if s.held then (match s.data? with
    | some (.ins c' fs) => if c' = c ∧ fs.length < 1000 then .ok .nx (ρ.set i (s.put (.ins c' (putFD f d fs)))) else .no
    | _ => .no) else .no
  | none => .no
section
variable {X : Cx} {b : Bs} {W : WX} {pos : Pos}
theorem ds_fld {c f n : Str} {i : Nat} {e : Expr} {φ : M AV} {p pos' : Pos} (fit : Fit X b) (cf : ClF X c f) (hn : PE X (.Name n p) (tVar i)) (he : PE X e (tE b W φ)) (hs : swapsWith e (some (.Attribute (.Name n p) f pos')) pos.line X.env = pure false := by rfl) :
    PS X (.Assign [.Attribute (.Name n p) f pos'] e pos) (tS b W (mSetF c f i φ)) := by
  obtain ⟨C, gC, cl, na⟩ := cf.ex
  refine weakS (ps_fld hn he hs) fun D σ H ⟨F, ρ, k, h⟩ => ?_
  refine runSE k h fun av v ρ1 F1 H1 k1 s1 r1 h1 => ?_
  obtain ⟨d, ρ2, F2, k2, s2, r2, h2⟩ := Then.froze k1 r1 h1
  cases ei : ρ2[i]? with
  | none => simp only [ei] at h2; exact h2.elim
  | some s =>
    simp only [ei] at h2
    have go : ∀ (c' : Str) (fs : List (Str × DL.D)) (a : Addr), s.held = true → s.data? = some (.ins c' fs) → σ[i]? = some (some (.ref a)) → OwnAt b.K b.mg F2 H1 a (.ins c' fs) → ∃ v0, σ[i]? = some (some v0) ∧ ∃ a C dx fs, v0 = .ref a ∧ H1 a = some (.ins C dx fs) ∧ Cls X.K C ∧ NoAttr X.K C f ∧ fs.length < 1000 ∧ D.nx σ (upd H1 a (.ins C dx (putF f v fs))) := fun c' fs a hh hd ea oa => by
      rw [hh, hd] at h2
      simp only [if_true] at h2
      by_cases hc : c' = c ∧ fs.length < 1000
      · rw [if_pos hc] at h2
        obtain ⟨rfl, hl⟩ := hc
        obtain ⟨C', dx, vs, m, hH, rf⟩ := oa
        have m0 := m
        rw [fit.mg, gC] at m
        cases m
        refine ⟨.ref a, ea, a, C, dx, vs, rfl, hH, cl, na, by rw [← rf.len]; exact hl, ?_⟩
        refine h2 σ F2 _ (k2.mut (o' := .ins C dx (putF f v vs)) ei hh ea ⟨C, dx, _, m0, upd_same, RepF.put r2 rf⟩) (Same.refl _)
      · rw [if_neg hc] at h2
        exact h2.elim
    have z := k2.slot i s ei
    cases s with
    | un => exact h2.elim
    | fz x => exact h2.elim
    | xn x => exact h2.elim
    | ow x =>
      obtain ⟨a, ea, n1, n0, oa⟩ := z
      cases x with
      | ins c' fs => exact go c' fs a rfl rfl (getD_ref ea) oa
      | _ => exact h2.elim
    | bo x =>
      obtain ⟨a, ea, n1, n0, oa⟩ := z
      cases x with
      | ins c' fs => exact go c' fs a rfl rfl (getD_ref ea) oa
      | _ => exact h2.elim
end
/-! o.m(..) -/
def mMeth (c m : Str) (md : Md) (n : Nat) (f : Fn) (φ : M AV) (ψ : M (List AV)) : M AV := φ.bnd fun a => (modeM md a).bnd fun a => (rd a).bnd fun d => match insF c d with
  | some fs => if fs.lookup m = none then ψ.bnd fun r => mFn n f (a :: r) else M.stuck
  | none => M.stuck
def tMethG (C : Addr) (m : Str) (sp : Sp) (E : L2.St → XK) (ta : TE) (t : TA) : TE := fun σ H Q => ta σ H fun x H1 => ∃ a dx fs, x = .ref a ∧ H1 a = some (.ins C dx fs) ∧ fs.lookup m = none ∧ t σ H1 fun vs H2 => sp (x :: vs) H2 Q (E σ)
section
variable {X : Cx} {k : Nat} {C f : Addr} {fd : FuncData} {ps : List Str} {sp : Sp} {E : L2.St → XK} {x m : Str} {p pos apos : Pos} {e o : Expr} {es : List Expr} {ta : TE} {t : TA}
theorem pe_methG {pl : Sem Bool} (he : PE X o ta) (c : Cls X.K C) (hm : Meth X.K C m f) (F : FnG X.prog X.w X.K X.mg X.base k f fd ps sp) (hr : Room k X.A) (hgd : X.A.guards = some []) (hb : Binds X.K fd ps []) (hx : ∀ σ, PassesAt (L2.CX X.prog X.w) X σ (E σ)) (ha : PA X (e :: es) t)
    (hst : starEach (e :: es) X.env = (false, eval e X.env) :: starEach es X.env) (hpl : (backTo pos (starEach es X.env)).any (·.1) = false)
    (ht : eval (.Call (.Attribute o m apos) (e :: es) [] pos) X.env = (do let ov ← eval o X.env; standAt apos.atName; let (f, first) ← holding [ov] (getMethod ov m pl); callWith pos f first (backTo pos (starEach (e :: es) X.env)) (backToKw pos (keywordEach [] X.env)))) :
    PE X (.Call (.Attribute o m apos) (e :: es) [] pos) (tMethG C m sp E ta t) := ⟨fun pins s σ H Q I h => PySem.W.methodCall_KW (pl := pl) (thn (he.run pins s σ H _ I h) fun u s1 ⟨x, H1, I1, rx, a, dx, fs, ex, ea, l, q⟩ => by
  subst ex
  cases (show u = Value.ref a from rx)
  exact getmeth_ok I1 ea c hm l (PySem.W.callWith_K (first := [.ref a]) (h₀ := X.base) I.ok.mod.kin hm.kp (thn (ha.run pos pins s1 σ H1 _ I1 q) fun us s2 ⟨vs, H2, I2, r, q2⟩ => ⟨I2.kIn, run_fnG (us := .ref a :: us) (vs := .ref a :: vs) F hr hgd hb (hx σ) I2 (.cons rfl r) q2⟩) hst hpl)) ht⟩
theorem pe_methG0 {pl : Sem Bool} (he : PE X o ta) (c : Cls X.K C) (hm : Meth X.K C m f) (F : FnG X.prog X.w X.K X.mg X.base k f fd ps sp) (hr : Room k X.A) (hgd : X.A.guards = some []) (hb : Binds X.K fd ps []) (hx : ∀ σ, PassesAt (L2.CX X.prog X.w) X σ (E σ))
    (ht : eval (.Call (.Attribute o m apos) [] [] pos) X.env = (do let ov ← eval o X.env; standAt apos.atName; let (f, first) ← holding [ov] (getMethod ov m pl); callWith pos f first (backTo pos (starEach [] X.env)) (backToKw pos (keywordEach [] X.env)))) :
    PE X (.Call (.Attribute o m apos) [] [] pos) (tMethG C m sp E ta tNil) := ⟨fun pins s σ H Q I h => PySem.W.methodCall_KW (pl := pl) (thn (he.run pins s σ H _ I h) fun u s1 ⟨x, H1, I1, rx, a, dx, fs, ex, ea, l, q⟩ => by
  subst ex
  cases (show u = Value.ref a from rx)
  exact getmeth_ok I1 ea c hm l (PySem.W.callWith_K0 (first := [.ref a]) I1.kIn hm.kp (run_fnG (us := [.ref a]) (vs := [.ref a]) F hr hgd hb (hx σ) I1 (.cons rfl .nil) q))) ht⟩
end
theorem RepA.insOf {X : Cx} {b : Bs} {W : WX} {α : Type} {ρ : DL.Env} {F H : Hp} {σ : L2.St} {c m : Str} {C : Addr} {av : AV} {v : V} {g : AV → M α} {Q : α → DL.Env → Hp → Hp → Prop} (fit : Fit X b) (gC : X.mg c = some (.ref C)) (k : Ok b ρ F H σ) (r : RepA b F H σ ρ av v) (h : After b W σ F (((rd av).bnd fun d => match insF c d with
  | some fs => if fs.lookup m = Option.none then g av else M.stuck
  | none => M.stuck) ρ) Q) : ∃ a dx fs, v = .ref a ∧ H a = some (.ins C dx fs) ∧ fs.lookup m = Option.none ∧ After b W σ F (g av ρ) Q := by
  obtain ⟨d, q, h2⟩ := h.read k r
  cases d with
  | ins c' fs =>
    have h2 : After b W σ F ((match (if c' = c then some fs else Option.none) with
      | some fs => if fs.lookup m = Option.none then g av else M.stuck
      | Option.none => M.stuck) ρ) Q := h2
    by_cases hc : c' = c
    · subst hc
      rw [if_pos rfl] at h2
      dsimp only at h2
      by_cases hl : fs.lookup m = Option.none
      · rw [if_pos hl] at h2
        obtain ⟨a, C', dx, vs, rfl, mm, hH, rf⟩ := RepD.ins k.sub q
        rw [fit.mg, gC] at mm
        cases mm
        exact ⟨a, dx, vs, rfl, hH, rf.none hl, h2⟩
      · rw [if_neg hl] at h2
        exact h2.elim
    · rw [if_neg hc] at h2
      exact h2.elim
  | _ => exact h2.elim
section
variable {X : Cx} {b : Bs} {W : WX} {pos : Pos}
theorem de_meth {j k : Nat} {c m : Str} {f : Fn} {o e : Expr} {es : List Expr} {apos : Pos} {φ : M AV} {ψ : M (List AV)} {pl : Sem Bool} (md : Md) (fit : Fit X b) (tk : Takes X W) (cm : ClM X.prog X.w X.K X.mg X.base k c m (es.length + 2) f) (room : Room j X.A) (hk : k ≤ j) (gd : X.A.guards = some []) (ho : PE X o (tE b W φ)) (ha : ∀ P, PA X (e :: es) (tR W ψ (b.add P)))
    (hst : starEach (e :: es) X.env = (false, eval e X.env) :: starEach es X.env := by rfl) (hpl : (backTo pos (starEach es X.env)).any (·.1) = false := by rfl)
    (ht : eval (.Call (.Attribute o m apos) (e :: es) [] pos) X.env = (do let ov ← eval o X.env; standAt apos.atName; let (f, first) ← holding [ov] (getMethod ov m pl); callWith pos f first (backTo pos (starEach (e :: es) X.env)) (backToKw pos (keywordEach [] X.env))) := by rfl) :
    PE X (.Call (.Attribute o m apos) (e :: es) [] pos) (tE b W (mMeth c m md (es.length + 2) f φ ψ)) := by
  obtain ⟨C, fa, fd, ps, gC, cl, hm, F0, hb⟩ := cm.ex
  refine weakE (pe_methG ho cl hm F0 (room.mono hk) gd hb (fun σ => passAt tk σ) (ax_add ha) hst hpl ht) fun σ H Q ⟨F, ρ, k, h⟩ => ?_
  refine runE k h fun av x ρ1 F1 H1 k1 s1 r1 h1 => ?_
  obtain ⟨av2, ρ2, F2, k2, s2, r2, h2⟩ := After.mode k1 r1 h1
  obtain ⟨a, dx, fs, ex, hH, hl, h2⟩ := RepA.insOf (g := fun a => ψ.bnd fun r => mFn (es.length + 2) f (a :: r)) fit gC k2 r2 h2
  refine ⟨a, dx, fs, ex, hH, hl, ?_⟩
  cases av2 with
  | sl i =>
    refine ⟨[], F2, ρ2, k2, h2.bnd.imp fun avs ρ3 F3 H3 k3 s3 ⟨_, h3⟩ vs r3 => ?_⟩
    have q := called_sp (n := es.length + 2) k3 (.cons (show RepA b F3 H3 σ ρ3 (.sl i) x from r2) (fun d e => by cases e) r3) h3
    rw [fit.K, fit.mg] at q
    exact q
  | fz d =>
    refine ⟨[], F2, ρ2, k2, h2.bnd.imp fun avs ρ3 F3 H3 k3 s3 ⟨_, h3⟩ vs r3 => ?_⟩
    have q := called_sp (n := es.length + 2) k3 (.cons (show RepA b F3 H3 σ ρ3 (.fz d) x from Rep.mono s3 r2) (fun d e => by cases e) r3) h3
    rw [fit.K, fit.mg] at q
    exact q
  | ow d =>
    obtain ⟨p, rfl, n, n0, oa, ap, np⟩ := r2
    obtain ⟨o, ho⟩ := oa.some
    have k2' := k2.add ho n ap
    refine ⟨[(p, o)], F2, ρ2, k2', (After.add h2.bnd).imp fun avs ρ3 F3 H3 k3 s3 ⟨_, _, h3⟩ vs r3 => ?_⟩
    obtain ⟨g1, g2, g3⟩ := k3.prot (p, o) List.mem_cons_self
    have q := called_sp (n := es.length + 2) k3.unadd (.cons (av := .ow d) (v := .ref p) ⟨p, rfl, g2, n0, OwnAt.mono s3 (fun o' e' => by rw [ho] at e'; cases e'; exact g1) oa, g3, np⟩ (fun d' _ a ea => by
      cases ea
      exact fun hm => (ows_mem r3 hm).2.2.2 (p, o) List.mem_cons_self rfl) r3.unadd) h3
    rw [fit.K, fit.mg] at q
    exact q
theorem de_meth0 {j k : Nat} {c m : Str} {f : Fn} {o : Expr} {apos : Pos} {φ : M AV} {pl : Sem Bool} (md : Md) (fit : Fit X b) (tk : Takes X W) (cm : ClM X.prog X.w X.K X.mg X.base k c m 1 f) (room : Room j X.A) (hk : k ≤ j) (gd : X.A.guards = some []) (ho : PE X o (tE b W φ))
    (ht : eval (.Call (.Attribute o m apos) [] [] pos) X.env = (do let ov ← eval o X.env; standAt apos.atName; let (f, first) ← holding [ov] (getMethod ov m pl); callWith pos f first (backTo pos (starEach [] X.env)) (backToKw pos (keywordEach [] X.env))) := by rfl) :
    PE X (.Call (.Attribute o m apos) [] [] pos) (tE b W (mMeth c m md 1 f φ mNil)) := by
  obtain ⟨C, fa, fd, ps, gC, cl, hm, F0, hb⟩ := cm.ex
  refine weakE (pe_methG0 ho cl hm F0 (room.mono hk) gd hb (fun σ => passAt tk σ) ht) fun σ H Q ⟨F, ρ, k, h⟩ => ?_
  refine runE k h fun av x ρ1 F1 H1 k1 s1 r1 h1 => ?_
  obtain ⟨av2, ρ2, F2, k2, s2, r2, h2⟩ := After.mode k1 r1 h1
  obtain ⟨a, dx, fs, ex, hH, hl, h2⟩ := RepA.insOf (g := fun a => mNil.bnd fun r => mFn 1 f (a :: r)) fit gC k2 r2 h2
  refine ⟨a, dx, fs, ex, hH, hl, ?_⟩
  have q := called_sp (n := 1) k2 (.cons r2 (fun d _ a _ hm => by cases hm) .nil) h2
  rw [fit.K, fit.mg] at q
  exact q
end
end DL

namespace DL
open PySem PySem.Spec PyProof.Rows L2

/-! ### DL24: C(..); properties -/
def mMakeN (c : Str) (n : Nat) (f : Fn) (avs : List AV) : M AV := if avs.length + 1 = n then fun ρ => match argsOf ρ avs with
  | none => .no
  | some (ks, is) => match f (.bo (.ins c []) :: ks) with
    | .ok false .non (d :: bs) => .ok (.ow d) (putB is bs ρ)
    | .ex e (_ :: bs) => .ex e (putB is bs ρ)
    | _ => .no
  else M.stuck
def mMake (c : Str) (n : Nat) (f : Fn) (φ : M (List AV)) : M AV := φ.bnd fun avs => mMakeN c n f avs
section
variable {b : Bs} {W : WX} {σ : L2.St} {ρ : DL.Env} {F H : Hp}
theorem apart_put {is : List (Option Nat)} {as : List Addr} {bs : List D} {x : Addr} (B : Bor b F H σ ρ is as) (ap : Apart ρ σ x) : Apart (putB is bs ρ) σ x := fun j s ej hs q => by
  by_cases hj : some j ∈ is
  · cases e0 : ρ[j]? with
    | none =>
      have l1 := (List.getElem?_eq_some_iff.mp ej).1
      rw [putB_len] at l1
      rw [List.getElem?_eq_getElem l1] at e0; cases e0
    | some s' =>
      obtain ⟨m, hm, em⟩ := List.mem_iff_getElem.mp hj
      have hm' : m < as.length := by rw [← B.len]; exact hm
      obtain ⟨_, t, et, ht⟩ := B.at_ m j _ (by rw [List.getElem?_eq_getElem hm, em]) (List.getElem?_eq_getElem hm')
      exact ap j t et ht q
  · rw [putB_out hj] at ej
    exact ap j s ej hs q
theorem boA_at {K : PySem.W.Frag} {mg : Str → Option Value} : ∀ {ks : List Sl} {vs : List V}, Args K mg F H ks vs → ∀ a ∈ boA ks vs, ∃ o, H a = some o
  | _, _, .nil, a, h => by unfold boA at h; cases h
  | _, _, @Args.cons _ _ _ _ s ks v vs hs hr, a, h => by
    cases s with
    | bo d =>
      obtain ⟨c, rfl, n, oa⟩ := hs
      have h : a ∈ c :: boA ks vs := h
      rcases List.mem_cons.mp h with rfl | h
      · exact oa.some
      · exact boA_at hr a h
    | fz d =>
      have h : a ∈ boA ks vs := by cases v <;> exact h
      exact boA_at hr a h
    | un => exact hs.elim
    | ow d => exact hs.elim
    | xn d => exact hs.elim
theorem args_grow {K : PySem.W.Frag} {mg : Str → Option Value} {F' H' : Hp} (g : Grow F H F' H') : ∀ {ks : List Sl} {vs : List V}, Args K mg F H ks vs → Args K mg F' H' ks vs
  | _, _, .nil => .nil
  | _, _, @Args.cons _ _ _ _ s ks v vs hs hr => by
    refine .cons ?_ (args_grow g hr)
    cases s with
    | bo d =>
      obtain ⟨c, rfl, n, oa⟩ := hs
      refine ⟨c, rfl, ?_, oa.mono g.ext fun o q => g.keep _ _ q⟩
      cases q : F' c with
      | none => rfl
      | some o =>
        obtain ⟨o', e'⟩ := oa.some
        rcases g.new c o q with y | y
        · rw [n] at y; cases y
        · rw [e'] at y; cases y
    | fz d => exact Rep.mono g.ext hs
    | un => exact hs.elim
    | ow d => exact hs.elim
    | xn d => exact hs.elim
theorem made_sp {c : Str} {C : Addr} {n : Nat} {f : Fn} {avs : List AV} {vs : List V} {Q : VK} (gC : b.mg c = some (.ref C)) (k : Ok b ρ F H σ) (r : RepR b F H σ ρ avs vs) (h : After b W σ F (mMakeN c n f avs ρ) fun av ρ' F' H' => ∀ v, RepA b F' H' σ ρ' av v → Q v H') :
    ∀ x dx, H x = none → H dx = none → dx ≠ x → spD b.K b.mg n f (.ref x :: vs) (upd (upd H dx (.own x)) x (.ins C dx [])) (fun v H2 => v = .non ∧ Q (.ref x) H2) (fun c dd H' => W c dd σ H') := by
  intro x dx nx ndx hne
  unfold mMakeN at h
  by_cases hl : avs.length + 1 = n
  case neg => rw [if_neg hl] at h; exact h.elim
  rw [if_pos hl] at h
  have hn : (V.ref x :: vs).length = n := by rw [List.length_cons, ← r.inv]; exact hl
  cases e : argsOf ρ avs with
  | none => simp only [e] at h; exact h.elim
  | some p =>
    obtain ⟨ks, is⟩ := p
    simp only [e] at h
    obtain ⟨A, B, _⟩ := k.argsOf r e
    have g1 : Grow F H F (upd H dx (.own x)) := Grow.owned k.sub ndx
    have nx1 : upd H dx (.own x) x = none := by rw [upd_ne (Ne.symm hne)]; exact nx
    have g2 : Grow F (upd H dx (.own x)) F (upd (upd H dx (.own x)) x (.ins C dx [])) := Grow.owned g1.sub nx1
    have A2 := args_grow g2 (args_grow g1 A)
    have fx : F x = none := k.fresh_F nx
    have x0 : b.H_0 x = none := k.fresh_0 nx
    have nin : x ∉ boA ks vs := fun hm => by
      obtain ⟨o, eo⟩ := boA_at A x hm
      rw [nx] at eo; cases eo
    refine ⟨hn, F, .bo (.ins c []) :: ks, g2.sub, .cons ⟨x, rfl, fx, C, dx, [], gC, upd_same, by unfold RepF; rfl⟩ A2, List.nodup_cons.mpr ⟨nin, B.nda⟩, ?_⟩
    have post : ∀ {d : D} {bs : List D} {F' H' : Hp}, FPost b.K b.mg F (upd (upd H dx (.own x)) x (.ins C dx [])) (boA (.bo (.ins c []) :: ks) (.ref x :: vs)) (d :: bs) F' H' → FPost b.K b.mg F H (boA ks vs) bs F' H' ∧ F' x = none ∧ OwnAt b.K b.mg F' H' x d := fun {d bs F' H'} p => by
      have po : BoOut b.K b.mg F' H' (x :: boA ks vs) (d :: bs) := p.out
      cases po with
      | cons n1 oa rest =>
        refine ⟨⟨p.sub, p.ext, fun a o q => ?_, fun a o q hna => ?_, rest⟩, n1, oa⟩
        · rcases p.new a o q with y | y
          · exact .inl y
          · refine .inr ?_
            by_cases ha : a = x
            · rw [ha]; exact nx
            · rw [upd_ne ha] at y
              by_cases hb : a = dx
              · rw [hb]; exact ndx
              · rw [upd_ne hb] at y; exact y
        · have ha : a ≠ x := fun z => by rw [z, nx] at q; cases q
          have hb : a ≠ dx := fun z => by rw [z, ndx] at q; cases q
          refine p.old a o (by rw [upd_ne ha, upd_ne hb]; exact q) fun hm => ?_
          have hm : a ∈ x :: boA ks vs := hm
          rcases List.mem_cons.mp hm with z | z
          · exact ha z
          · exact hna z
    cases e2 : f (.bo (.ins c []) :: ks) with
    | no => rw [e2] at h; exact h.elim
    | ex y bs =>
      rw [e2] at h
      intro c' dd F' H' p q
      cases bs with
      | nil => cases p.out
      | cons d bs =>
        obtain ⟨p2, _, _⟩ := post p
        exact h c' dd F' H' (k.called B p2) p2.ext q
    | ok own d0 bs =>
      rw [e2] at h
      intro v F' H' p q
      cases bs with
      | nil => cases p.out
      | cons d bs =>
        obtain ⟨p2, n1, oa⟩ := post p
        cases own with
        | true => exact h.elim
        | false =>
          cases d0 with
          | non =>
            have q : Rep b.K b.mg F' .non v := q
            unfold Rep at q
            refine ⟨q, h F' H' (k.called B p2) p2.ext (.ref x) ⟨x, rfl, n1, x0, oa, apart_put B (k.apart_new nx), fun pq hp z => ?_⟩⟩
            have hh := (k.prot pq hp).1
            rw [z, nx] at hh; cases hh
          | _ => exact h.elim
end
def tMakeG (C : Addr) (sp : Sp) (E : L2.St → XK) (t : TA) : TE := fun σ H Q => t σ H fun vs H1 => ∀ x dx, H1 x = none → H1 dx = none → dx ≠ x → sp (.ref x :: vs) (upd (upd H1 dx (.own x)) x (.ins C dx [])) (fun v H2 => v = .non ∧ Q (.ref x) H2) (E σ)
section
variable {X : Cx} {k : Nat} {C f : Addr} {fd : FuncData} {ps : List Str} {sp : Sp} {E : L2.St → XK} {x : Str} {p pos : Pos} {e : Expr} {es : List Expr} {t : TA}
theorem run_makeG {pins : List (Addr × Obj)} {σ : L2.St} {H : Hp} {s : Shared} {Q : VK} {us : List Value} {vs : List V} (M : Mk X.K C f) (F : FnG X.prog X.w X.K X.mg X.base k f fd ps sp) (hr : Room (k + 1) X.A) (hg : X.A.guards = some []) (hb : Binds X.K fd ps [])
    (hx : PassesAt (L2.CX X.prog X.w) X σ (E σ)) (I : L2.Inv X pins σ H s) (r : Vals vs us)
    (h : ∀ x dx, H x = none → H dx = none → dx ≠ x → sp (.ref x :: vs) (upd (upd H dx (.own x)) x (.ins C dx [])) (fun v H2 => v = .non ∧ Q (.ref x) H2) (E σ)) :
    wpAny (model X.prog X.w) X.A (call (.ref C) us) (EP X pins σ Q) X.xe s := by
  have n0 : H s.heap.objs.size = none := I.hok.fresh (Nat.le_refl _)
  have n1 : H (s.heap.objs.size + 1) = none := I.hok.fresh (Nat.le_succ _)
  have hq := h _ _ n1 n0 (Nat.ne_of_lt (Nat.lt_succ_self _))
  have J := Inv.made (C := C) I
  have rr : Vals (V.ref (s.heap.objs.size + 1) :: vs) (Value.ref (s.heap.objs.size + 1) :: us) := .cons rfl r
  have lps : (Value.ref (s.heap.objs.size + 1) :: us).length = ps.length := (F.len _ _ _ _ hq ▸ rr.length).symm
  have bb := hb _ (Value.ref (s.heap.objs.size + 1) :: us) J.kIn (by rw [List.append_nil]; exact lps)
  rw [List.append_nil] at bb
  have gg : (X.A.under (.builtin "type.__call__" ⟨.ref C :: us, []⟩)).guards = some [] := by
    simp [Around.under, Code.guards, Code.isGuard, pushGuards, hg, (by decide : ¬ ("type.__call__" ∈ guardIds))]
  refine wpAny_call (make_map (f := f) I.kIn M.makes M.init (beq_iff_eq.mp M.fn) (codeAny_mono (F.run _ X.stack _ _ ⟨Value.ref (s.heap.objs.size + 1) :: us, []⟩ _ _ _ (E σ) (hr.make C us []) gg (J.env0.make C us []) bb rr hq) fun r s' hq' => ?_))
  cases r with
  | error er => exact hx pins _ _ er s' J hq'
  | ok fl =>
    cases fl with
    | ret u =>
      obtain ⟨v, H2, J2, rv, ev, q3⟩ := J.after hq'
      cases ev
      exact ⟨rv, V.ref (s.heap.objs.size + 1), H2, J2, rfl, q3⟩
    | next => exact hq'.elim
    | brk => exact hq'.elim
    | cont => exact hq'.elim
theorem pe_makeG (M : Mk X.K C f) (F : FnG X.prog X.w X.K X.mg X.base k f fd ps sp) (hr : Room (k + 1) X.A) (hgd : X.A.guards = some []) (hg : Gl X x) (hm : X.mg x = some (.ref C)) (hb : Binds X.K fd ps []) (hx : ∀ σ, PassesAt (L2.CX X.prog X.w) X σ (E σ)) (ha : PA X (e :: es) t)
    (hdb : (x == ("__debug__" : Str)) = false) (he : starEach (e :: es) X.env = (false, eval e X.env) :: starEach es X.env) (hpl : (backTo pos (starEach es X.env)).any (·.1) = false) : PE X (.Call (.Name x p) (e :: es) [] pos) (tMakeG C sp E t) := ⟨fun pins s σ H Q I h =>
  wpAny_Call_Name_kw (ld_glob I hg hm (PySem.W.callWith_K (h₀ := X.base) I.ok.mod.kin M.kp (thn (ha.run pos pins s σ H _ I h) fun us s1 ⟨vs, H1, I1, r, q⟩ => ⟨I1.kIn, run_makeG M F hr hgd hb (hx σ) I1 r q⟩) he hpl) hdb)⟩
theorem pe_makeG0 (M : Mk X.K C f) (F : FnG X.prog X.w X.K X.mg X.base k f fd ps sp) (hr : Room (k + 1) X.A) (hgd : X.A.guards = some []) (hg : Gl X x) (hm : X.mg x = some (.ref C)) (hb : Binds X.K fd ps []) (hx : ∀ σ, PassesAt (L2.CX X.prog X.w) X σ (E σ))
    (hdb : (x == ("__debug__" : Str)) = false) : PE X (.Call (.Name x p) [] [] pos) (tMakeG C sp E tNil) := ⟨fun pins s σ H Q I h =>
  wpAny_Call_Name_kw (ld_glob I hg hm (PySem.W.callWith_K0 I.kIn M.kp (run_makeG (us := []) M F hr hgd hb (hx σ) I .nil h)) hdb)⟩
end
section
variable {X : Cx} {b : Bs} {W : WX} {pos : Pos}
theorem de_make {j k : Nat} {c : Str} {f : Fn} {e : Expr} {es : List Expr} {p : Pos} {φ : M (List AV)} (fit : Fit X b) (tk : Takes X W) (ci : ClI X.prog X.w X.K X.mg X.base k c (es.length + 2) f) (room : Room j X.A) (hk : k + 1 ≤ j) (gd : X.A.guards = some []) (ha : PA X (e :: es) (tR W φ b)) (hg : Gl X c := by rfl) (hdb : (c == ("__debug__" : Str)) = false := by decide)
    (he : starEach (e :: es) X.env = (false, eval e X.env) :: starEach es X.env := by rfl) (hpl : (backTo pos (starEach es X.env)).any (·.1) = false := by rfl) : PE X (.Call (.Name c p) (e :: es) [] pos) (tE b W (mMake c (es.length + 2) f φ)) := by
  obtain ⟨C, fa, fd, ps, gC, mk, F0, hb⟩ := ci.ex
  refine weakE (pe_makeG mk F0 (room.mono hk) gd hg gC hb (fun σ => passAt tk σ) ha hdb he hpl) fun σ H Q ⟨F, ρ, k, h⟩ => ?_
  refine ⟨F, ρ, k, h.bnd.imp fun avs ρ1 F1 H1 k1 s1 ⟨_, h1⟩ vs r1 => ?_⟩
  have q := made_sp (by rw [fit.mg]; exact gC) k1 r1 h1
  rw [fit.K, fit.mg] at q
  exact q
theorem de_make0 {j k : Nat} {c : Str} {f : Fn} {p : Pos} (fit : Fit X b) (tk : Takes X W) (ci : ClI X.prog X.w X.K X.mg X.base k c 1 f) (room : Room j X.A) (hk : k + 1 ≤ j) (gd : X.A.guards = some []) (hg : Gl X c := by rfl) (hdb : (c == ("__debug__" : Str)) = false := by decide) :
    PE X (.Call (.Name c p) [] [] pos) (tE b W (mMakeN c 1 f [])) := by
  obtain ⟨C, fa, fd, ps, gC, mk, F0, hb⟩ := ci.ex
  refine weakE (pe_makeG0 mk F0 (room.mono hk) gd hg gC hb (fun σ => passAt tk σ) hdb) fun σ H Q ⟨F, ρ, k, h⟩ => ?_
  have q := made_sp (by rw [fit.mg]; exact gC) k .nil h
  rw [fit.K, fit.mg] at q
  exact q
end
/-! properties -/
def mProp (c m : Str) (md : Md) (f : Fn) (φ : M AV) : M AV := φ.bnd fun a => (modeM md a).bnd fun a => (rd a).bnd fun d => if (insF c d).isSome then (fun ρ => match mFn 1 f [a] ρ with
  | .ok v ρ' => .ok v ρ'
  | _ => .no) else M.stuck
def tPropG (C : Addr) (sp : Sp) (ta : TE) : TE := fun σ H Q => ta σ H fun x H1 => ∃ a dx fs, x = .ref a ∧ H1 a = some (.ins C dx fs) ∧ sp [.ref a] H1 Q (fun _ _ _ => False)
section
variable {X : Cx} {k : Nat} {C p g : Addr} {f : Str} {fd : FuncData} {ps : List Str} {sp : Sp} {e : Expr} {pos : Pos} {ta : TE}
theorem pe_propG (he : PE X e ta) (c : Cls X.K C) (hp : PropOf X.K C f p g) (F : FnG X.prog X.w X.K X.mg X.base k g fd ps sp) (hr : Room (k + 1) X.A) (hgd : X.A.guards = some []) (hb : Binds X.K fd ps []) (hab : attributeBase e f X.env (eval e X.env) = eval e X.env) : PE X (.Attribute e f pos) (tPropG C sp ta) := ⟨fun pins s σ H Q I h =>
  attr_of hab (thn (he.run pins s σ H _ I h) fun u s1 ⟨x, H1, I1, rx, a, dx, fs, ex, ea, q⟩ => by
    subst ex
    cases (show u = Value.ref a from rx)
    obtain ⟨mA, O, _, _, _, _⟩ := ins_get I1.hok ea
    obtain ⟨od, J, _⟩ := O.look
    obtain ⟨rest, hrec⟩ := hp.rec_
    have It := I1.tok (s1.toks + 1)
    have lps : [Value.ref a].length = ps.length := (F.len _ _ _ _ q ▸ rfl : ([V.ref a] : List V).length = ps.length)
    have hc : (PySem.W.clsIn X.K C).isSome = true := by
      obtain ⟨cd, hc, _⟩ := PySem.W.any_some c.hd
      exact Option.isSome_iff_exists.mpr ⟨cd, hc⟩
    have bb := hb { s1 with toks := s1.toks + 1 } [.ref a] It.kIn (by rw [List.append_nil]; exact lps)
    rw [List.append_nil] at bb
    have pg := PySem.W.plainGet_of (c.get f)
    refine PySem.W.get_bind I1.kIn J pg.1 (PySem.W.findObj_data hc hp.at_ hp.get hp.tak) pg.2 (wpAny_call (PySem.W.prop_get (s := { s1 with toks := s1.toks + 1 }) It.kIn hrec (codeAny_mono (F.run X.A.in1 X.stack { s1 with toks := s1.toks + 1 } H1 ⟨[.ref a], []⟩ [.ref a] [.ref a] Q (fun _ _ _ => False) hr.in1 hgd It.env0.in1 bb (.cons rfl .nil) q) fun r s' hq => ?_)))
    cases r with
    | error er =>
      obtain ⟨_, _, _, _, _, _, _, _, _, _, _, _, z⟩ := (show L2.CX X.prog X.w X.stack H1 { s1 with toks := s1.toks + 1 } (fun _ _ _ => False) er s' from hq)
      exact z.elim
    | ok fl =>
      cases fl with
      | ret u =>
        obtain ⟨v, H', I3, rv, q3⟩ := It.after hq
        show wpAny _ _ (handedOut u) _ _ _
        rw [PySem.W.handedOut_of (handed_of rv)]
        exact wpAny_pure ⟨v, H', I3, rv, q3⟩
      | next => exact hq.elim
      | brk => exact hq.elim
      | cont => exact hq.elim)⟩
end
theorem called_ok {b : Bs} {W : WX} {σ : L2.St} {ρ : DL.Env} {F H : Hp} {n : Nat} {f : Fn} {avs : List AV} {vs : List V} {Q : VK} (k : Ok b ρ F H σ) (r : RepR b F H σ ρ avs vs) (h : After b W σ F ((match mFn n f avs ρ with
  | .ok v ρ' => .ok v ρ'
  | _ => .no : DL.R AV)) fun av ρ' F' H' => ∀ v, RepA b F' H' σ ρ' av v → Q v H') : spD b.K b.mg n f vs H Q (fun _ _ _ => False) := by
  refine called_sp (W := fun _ _ _ _ => False) k r ?_
  cases e : mFn n f avs ρ with
  | no => rw [e] at h; exact h.elim
  | ex x ρ' => rw [e] at h; exact h.elim
  | ok v ρ' => rw [e] at h; exact h
section
variable {X : Cx} {b : Bs} {W : WX} {pos : Pos}
theorem de_prop {j k : Nat} {c m : Str} {f : Fn} {o : Expr} {φ : M AV} (md : Md) (fit : Fit X b) (cp : ClP X.prog X.w X.K X.mg X.base k c m f) (room : Room j X.A) (hk : k + 1 ≤ j) (gd : X.A.guards = some []) (ho : PE X o (tE b W φ)) (hb : attributeBase o m X.env (eval o X.env) = eval o X.env := by rfl) :
    PE X (.Attribute o m pos) (tE b W (mProp c m md f φ)) := by
  obtain ⟨C, p, g, fd, ps, gC, cl, hp, F0, hbd⟩ := cp.ex
  refine weakE (pe_propG ho cl hp F0 (room.mono hk) gd hbd hb) fun σ H Q ⟨F, ρ, k, h⟩ => ?_
  refine runE k h fun av x ρ1 F1 H1 k1 s1 r1 h1 => ?_
  obtain ⟨av2, ρ2, F2, k2, s2, r2, h2⟩ := After.mode k1 r1 h1
  obtain ⟨d, q, h3⟩ := h2.read k2 r2
  cases d with
  | ins c' fs =>
    have h3 : After b W σ F2 ((if (if c' = c then some fs else none).isSome = true then (fun ρ => match mFn 1 f [av2] ρ with
      | .ok v ρ' => .ok v ρ'
      | _ => .no) else M.stuck : M AV) ρ2) _ := h3
    by_cases hc : c' = c
    · subst hc
      rw [if_pos (by rw [if_pos rfl]; rfl)] at h3
      obtain ⟨a, C', dx, vs, rfl, mm, hH, rf⟩ := RepD.ins k2.sub q
      rw [fit.mg, gC] at mm
      cases mm
      refine ⟨a, dx, vs, rfl, hH, ?_⟩
      have z := called_ok (n := 1) k2 (.cons r2 (fun d _ a _ hm => by cases hm) .nil) h3
      rw [fit.K, fit.mg] at z
      exact z
    · rw [if_neg (by rw [if_neg hc]; exact Bool.false_ne_true)] at h3
      exact h3.elim
  | _ => exact h3.elim
end
end DL

namespace DL
open PySem PySem.Spec PyProof.Rows L2

/-! ### DL25: what the head says, defs by any address; written dicts with text keys -/
structure DefE where
  at_ : PySem.W.Frag → Addr
  name : Str
  qual : Str
  params : Arguments
  body : List Stmt
  scope : Scope
  dfl : List He.Dv := []
  kwd : List (Str × He.Dv) := []
/-- the function of a global's name, of a class's method, of a property -/
def gA (x : Str) (K : PySem.W.Frag) : Addr := He.ga K x
def mA (c m : Str) (K : PySem.W.Frag) : Addr := He.ma K (He.ga K c) m
def recOf (kind : String) (K : PySem.W.Frag) (p : Addr) : Addr := match PySem.W.recIn K p kind with
  | some (.ref g :: _) => g
  | _ => 0
def pA (c m : Str) (K : PySem.W.Frag) : Addr := recOf "property" K (mA c m K)
def fnA (K : PySem.W.Frag) (a : Addr) : He.FnW := match K.lookup a with
  | some ⟨_, _, .func fd, _⟩ => some (fd.name, fd.qualname, fd.params, fd.body, fd.scope, fd.globals, fd.closure, fd.builtins)
  | _ => none
def DefE.val (d : DefE) : He.FnW := some (d.name, d.qual, d.params, .stmts d.body, d.scope, mainGlobals, [], builtinsNs)
def DefE.dvs (K : PySem.W.Frag) (d : DefE) : List V := d.dfl.map (He.Dv.v K)
def DefE.kws (K : PySem.W.Frag) (d : DefE) : List (Str × V) := d.kwd.map fun q => (q.1, q.2.v K)
def DefE.ok (K : PySem.W.Frag) (d : DefE) : Bool := PySem.W.keepIn K (.ref (d.at_ K)) && (match K.lookup (d.at_ K) with
  | some ⟨_, _, .func fd, _⟩ => PySem.W.codeIn K fd.code d.qual && (He.dflB K fd.defaults (d.dvs K) && He.kwdB K fd.kwdefaults (d.kws K))
  | _ => false)
theorem DefE.funD {K : PySem.W.Frag} {d : DefE} (e : fnA K (d.at_ K) = d.val) (c : d.ok K = true) : ∃ fd, FunD K d.name d.qual d.params d.body d.scope (d.dvs K) (d.kws K) (d.at_ K) fd := by
  unfold DefE.ok at c
  rw [Bool.and_eq_true] at c
  unfold fnA at e
  cases q : K.lookup (d.at_ K) with
  | none => rw [q] at e; cases e
  | some o =>
    obtain ⟨oc, od, dt, osl⟩ := o
    rw [q] at c e
    cases dt with
    | func fd =>
      obtain ⟨n1, n2, n3, n4, n5, n6, n7, n8, n9, n10, n11, n12, n13, n14, n15⟩ := fd
      have e := Option.some.inj e
      simp only [Prod.mk.injEq] at e
      obtain ⟨h1, h2, h3, h4, h5, h6, h7, h8⟩ := e
      subst h1 h2 h3 h4 h5 h6 h7 h8
      have c2 := c.2
      dsimp only at c2
      rw [Bool.and_eq_true, Bool.and_eq_true] at c2
      exact ⟨_, ⟨oc, od, n8, n9, n10, n11, n12, n13, n14, osl, rfl, q, c2.1, He.dflB_ok c2.2.1, He.kwdB_ok c2.2.2⟩, c.1⟩
    | _ => cases e
abbrev Tb : Type := (PySem.W.Frag → Addr) × List Str
abbrev AlY : Type := Bool × List He.FnW × List (Option (List (Option (Str × Int))))
def obsY (fa : List He.Fa) (fn : List DefE) (ts : List Tb) (ex : List (PySem.W.Frag → Bool)) (K : PySem.W.Frag) : AlY := ((ex.all fun t => t K) && ((fa.all fun f => f.ok K) && fn.all fun d => d.ok K), fn.map fun d => fnA K (d.at_ K), ts.map fun t => He.dicW K (t.1 K))
def valY (fn : List DefE) (ts : List Tb) (w : World) : AlY := (true, fn.map DefE.val, ts.map fun t => some (He.keysIn w.params t.2))
def SaysY (fa : List He.Fa) (fn : List DefE) (ts : List Tb) (ex : List (PySem.W.Frag → Bool)) (w : World) (K : PySem.W.Frag) : Prop := obsY fa fn ts ex K = valY fn ts w
def obsYG (n : Nat) (fa : List He.Fa) (fn : List DefE) (ts : List Tb) (ex : List (PySem.W.Frag → Bool)) (g : Addr → Option Obj) : AlY := obsY fa fn ts ex (He.frG g (He.asD g n))
def hookY (n : Nat) (fa : List He.Fa) (fn : List DefE) (ts : List Tb) (ex : List (PySem.W.Frag → Bool)) : PySem.W.Hook where
  α := AlY
  obs := fun s => obsYG n fa fn ts ex s.heap.get?
  val := fun w => valY fn ts w
  says := fun w h => ∃ K : PySem.W.Frag, K.In h ∧ SaysY fa fn ts ex w K
  of := fun _ _ e => ⟨_, He.frG_in, e⟩
  keeps := fun _ _ _ ⟨K, hK, c⟩ k => ⟨K, PySem.W.Frag.In.keeps hK k, c⟩
theorem obsYG_eq {n : Nat} {fa : List He.Fa} {fn : List DefE} {ts : List Tb} {ex : List (PySem.W.Frag → Bool)} {g : Addr → Option Obj} {s : Shared} (h : ∀ a, g a = s.heap.get? a) : obsYG n fa fn ts ex g = (hookY n fa fn ts ex).obs s := by
  have e : g = s.heap.get? := funext h
  rw [e] <;> rfl
section
variable {fa : List He.Fa} {fn : List DefE} {ts : List Tb} {ex : List (PySem.W.Frag → Bool)} {w : World} {K : PySem.W.Frag}
theorem SaysY.one (c : SaysY fa fn ts ex w K) : (∀ t ∈ ex, t K = true) ∧ (∀ f ∈ fa, f.ok K = true) ∧ ∀ d ∈ fn, d.ok K = true := by
  have c1 : ((ex.all fun t => t K) && ((fa.all fun f => f.ok K) && fn.all fun d => d.ok K)) = true := congrArg (fun z : AlY => z.1) c
  rw [Bool.and_eq_true, Bool.and_eq_true] at c1
  exact ⟨List.all_eq_true.mp c1.1, List.all_eq_true.mp c1.2.1, List.all_eq_true.mp c1.2.2⟩
theorem SaysY.extra (c : SaysY fa fn ts ex w K) (i : Nat) {t : PySem.W.Frag → Bool} (h : ex[i]? = some t := by rfl) : t K = true := c.one.1 t (List.mem_of_getElem? h)
theorem SaysY.fact (c : SaysY fa fn ts ex w K) (i : Nat) {f : He.Fa} (h : fa[i]? = some f := by rfl) : f.ok K = true := c.one.2.1 f (List.mem_of_getElem? h)
theorem SaysY.def_ (c : SaysY fa fn ts ex w K) (i : Nat) {d : DefE} (h : fn[i]? = some d := by rfl) : ∃ fd, FunD K d.name d.qual d.params d.body d.scope (d.dvs K) (d.kws K) (d.at_ K) fd := by
  have c2 : fn.map (fun d => fnA K (d.at_ K)) = fn.map DefE.val := congrArg (fun z : AlY => z.2.1) c
  have hi := List.mem_of_getElem? h
  refine DefE.funD ?_ (c.one.2.2 d hi)
  have := congrArg (fun l => l[i]?) c2
  simp only [List.getElem?_map, h, Option.map_some] at this
  exact Option.some.inj this
theorem SaysY.tab (c : SaysY fa fn ts ex w K) (i : Nat) {t : Tb} (h : ts[i]? = some t := by rfl) : He.dicW K (t.1 K) = some (He.keysIn w.params t.2) := by
  have c2 : ts.map (fun t => He.dicW K (t.1 K)) = ts.map fun t => some (He.keysIn w.params t.2) := congrArg (fun z : AlY => z.2.2) c
  have := congrArg (fun l => l[i]?) c2
  simp only [List.getElem?_map, h, Option.map_some] at this
  exact Option.some.inj this
end
/-! a property -/
def propB (K : PySem.W.Frag) (c m : Str) : Bool := decide (PySem.W.findIn K (.ref (He.ga K c)) m = some (some (.ref (mA c m K)))) && (decide (PySem.W.specialIn K (.ref (mA c m K)) "__get__" = some (some (.builtin "property.__get__"))) && (decide (PySem.W.takesIn K (.ref (mA c m K)) = some true) && (match PySem.W.recIn K (mA c m K) "property" with
  | some (.ref _ :: _) => true
  | _ => false)))
theorem propB_ok {K : PySem.W.Frag} {c m : Str} (h : propB K c m = true) : PropOf K (He.ga K c) m (mA c m K) (pA c m K) := by
  unfold propB at h
  rw [Bool.and_eq_true, Bool.and_eq_true, Bool.and_eq_true] at h
  obtain ⟨h1, h2, h3, h4⟩ := h
  refine ⟨of_decide_eq_true h1, of_decide_eq_true h2, of_decide_eq_true h3, ?_⟩
  unfold pA recOf
  cases e : PySem.W.recIn K (mA c m K) "property" with
  | none => rw [e] at h4; cases h4
  | some l =>
    rw [e] at h4
    match l, h4 with
    | .ref g :: r, _ => exact ⟨r, rfl⟩
/-! a written dict with text keys and flat values -/
def kdB (a : PySem.W.Frag → Addr) (kvs : List (Str × D)) (K : PySem.W.Frag) : Bool := kvs.all fun q => match PySem.W.nsIn K (a K) q.1 with
  | some (some u) => He.relB (flD q.2) u && isFl q.2
  | _ => false
def dOf (kvs : List (Str × D)) : List (D × D) := kvs.map fun q => (.str q.1, q.2)
structure KdD (X : Cx) (x : Str) (kvs : List (Str × D)) : Prop where
  ex : ∃ d es n, X.mg x = some (.ref d) ∧ KDict X.K X.w d es n ∧ ∀ z : Str, match getK (dOf kvs) (.inr z) with
    | none => PySem.W.nsIn X.K d z = some none
    | some dv => ∃ u v, PySem.W.nsIn X.K d z = some (some u) ∧ RelV v u ∧ ∀ F, Rep X.K X.mg F dv v
theorem getK_dOf {z : Str} : ∀ {kvs : List (Str × D)}, (getK (dOf kvs) (.inr z) = none → z ∉ kvs.map (·.1)) ∧ ∀ dv, getK (dOf kvs) (.inr z) = some dv → ∃ q ∈ kvs, q.1 = z ∧ q.2 = dv
  | [] => ⟨fun _ => by simp, fun dv h => by cases h⟩
  | (k, d) :: kvs => by
    have ih := getK_dOf (z := z) (kvs := kvs)
    have e : getK (dOf ((k, d) :: kvs)) (.inr z) = if keyOf (.str k) = some (.inr z) then some d else getK (dOf kvs) (.inr z) := rfl
    rw [e]
    by_cases h : keyOf (.str k) = some (.inr z)
    · rw [if_pos h]
      have hk : k = z := Sum.inr.inj (Option.some.inj h)
      exact ⟨fun q => by (cases q), fun dv q => ⟨(k, d), List.mem_cons_self, hk, Option.some.inj q⟩⟩
    · rw [if_neg h]
      refine ⟨fun q => ?_, fun dv q => ?_⟩
      · rw [List.map_cons, List.mem_cons, not_or]
        exact ⟨fun w => h (by rw [w]; rfl), ih.1 q⟩
      · obtain ⟨p, hp, r⟩ := ih.2 dv q
        exact ⟨p, List.mem_cons_of_mem _ hp, r⟩
theorem flD_repF {K : PySem.W.Frag} {mg : Str → Option Value} {F : Hp} {d : D} (h : isFl d = true) : Rep K mg F d (flD d) := by
  cases d <;> first
    | (unfold Rep; rfl)
    | cases h
theorem ns_none {K : PySem.W.Frag} {P : Params} {a : Addr} {ks : List Str} {z : Str} (h : He.dicW K a = some (He.keysIn P ks)) (hz : z ∉ ks) : PySem.W.nsIn K a z = some none := by
  unfold He.dicW at h
  unfold PySem.W.nsIn
  split at h
  · rename_i c es n sl hl
    rw [hl]
    dsimp only
    cases hd : decide (c = "dict") && (sl.isEmpty && !(a == sysModules)) with
    | false => rw [hd] at h; cases h
    | true =>
      rw [hd] at h
      have hm : es.toList.map He.keyOf = He.keysIn P ks := Option.some.inj h
      have key : ∀ (l : List DictEntry) (ks : List Str), l.map He.keyOf = He.keysIn P ks → z ∉ ks → l.find? (·.key.isStr z) = none ∧ l.any (·.refKey) = false := by
        intro l
        induction l with
        | nil => exact fun _ _ _ => ⟨rfl, rfl⟩
        | cons e l ih =>
          intro ks hm hz
          cases ks with
          | nil => cases hm
          | cons k ks =>
            have hm : He.keyOf e :: l.map He.keyOf = some (k, PyData.keyHash P k) :: He.keysIn P ks := hm
            injection hm with h1 h2
            rw [List.mem_cons, not_or] at hz
            obtain ⟨i1, i2⟩ := ih ks h2 hz.2
            unfold He.keyOf at h1
            split at h1
            · rename_i y t ey
              have hy : y = k := congrArg (fun q => q.1) (Option.some.inj h1)
              subst hy
              have s1 : e.key.isStr z = false := by
                rw [ey]
                show (y == z) = false
                exact beq_false_of_ne fun q => hz.1 q.symm
              refine ⟨by rw [List.find?_cons, s1]; exact i1, ?_⟩
              rw [List.any_cons, i2, Bool.or_false]
              unfold DictEntry.refKey
              rw [ey]
            · cases h1
      obtain ⟨h1, h2⟩ := key es.toList ks hm hz
      rw [h1, h2]
      rfl
  · cases h
theorem KdD.mk' {X : Cx} {x : Str} {kvs : List (Str × D)} {w : World} {K : PySem.W.Frag} {mg : Str → Option Value} (eK : X.K = K) (eM : X.mg = mg) (eW : X.w = w) (gm : mg x = some (.ref (He.ga K x))) (h : He.dicW K (gA x K) = some (He.keysIn w.params (kvs.map (·.1)))) (hv : kdB (gA x) kvs K = true) : KdD X x kvs := by
  subst eK eM eW
  obtain ⟨es, n, kd⟩ := He.dicW_ok h
  refine ⟨He.ga X.K x, es, n, gm, kd, fun z => ?_⟩
  cases e : getK (dOf kvs) (.inr z) with
  | none => exact ns_none h (getK_dOf.1 e)
  | some dv =>
    obtain ⟨q, hq, rfl, rfl⟩ := getK_dOf.2 dv e
    have hb := List.all_eq_true.mp hv q hq
    cases e2 : PySem.W.nsIn X.K (gA x X.K) q.1 with
    | none => rw [e2] at hb; cases hb
    | some o =>
      cases o with
      | none => rw [e2] at hb; cases hb
      | some u =>
        rw [e2, Bool.and_eq_true] at hb
        exact ⟨u, flD q.2, e2, He.relB_ok hb.1, fun F => flD_repF hb.2⟩
def mKIn (kvs : List (Str × D)) (neg : Bool) (φ : M AV) : M AV := φ.bnd fun a => (rd (stab a)).bnd fun d => match d with
  | .str z => M.ret (.fz (.bl (xor neg (getK (dOf kvs) (.inr z)).isSome)))
  | _ => M.stuck
def mKIx (kvs : List (Str × D)) (φ : M AV) : M AV := φ.bnd fun a => (rd (stab a)).bnd fun d => match d with
  | .str z => lift ((getK (dOf kvs) (.inr z)).map .fz)
  | _ => M.stuck
def mKGet (kvs : List (Str × D)) (φ ψ : M AV) : M AV := φ.bnd fun a => ψ.bnd fun c => (frz (stab a)).bnd fun d => (frz (stab c)).bnd fun e => match d with
  | .str z => M.ret (.fz ((getK (dOf kvs) (.inr z)).getD e))
  | _ => M.stuck
section
variable {X : Cx} {b : Bs} {W : WX} {pos : Pos}
theorem pe_gref {x : Str} {p : Pos} {a : Addr} (hm : X.mg x = some (.ref a)) (hg : Gl X x) (hdb : (x == ("__debug__" : Str)) = false := by decide) : PE X (.Name x p) (tC (.ref a)) := ⟨fun pins s σ H Q I h => ld_glob I hg hm ⟨.ref a, H, I, rfl, h⟩ hdb⟩
theorem KdD.at_ {x : Str} {kvs : List (Str × D)} (kd : KdD X x kvs) : ∃ d es n, X.mg x = some (.ref d) ∧ KDict X.K X.w d es n ∧ ∀ z : Str, ∃ r, PySem.W.nsIn X.K d z = some r ∧ r.isSome = (getK (dOf kvs) (.inr z)).isSome ∧ ∀ dv, getK (dOf kvs) (.inr z) = some dv → ∃ u v, r = some u ∧ RelV v u ∧ ∀ F, Rep X.K X.mg F dv v := by
  obtain ⟨d, es, n, gm, D0, hz⟩ := kd.ex
  refine ⟨d, es, n, gm, D0, fun z => ?_⟩
  have hz := hz z
  cases e0 : getK (dOf kvs) (.inr z) with
  | none => rw [e0] at hz; exact ⟨none, hz, rfl, fun dv q => by cases q⟩
  | some dv =>
    rw [e0] at hz
    obtain ⟨u, v', hn, hr, hp⟩ := hz
    exact ⟨some u, hn, rfl, fun dv' q => by cases q; exact ⟨u, v', rfl, hr, hp⟩⟩
theorem kin_rd {kvs : List (Str × D)} {neg : Bool} {d : Addr} {φ : M AV} {σ : L2.St} {F H : Hp} {ρ : DL.Env} {Q : VK} (hz : ∀ z : Str, ∃ r, PySem.W.nsIn X.K d z = some r ∧ r.isSome = (getK (dOf kvs) (.inr z)).isSome) (k : Ok b ρ F H σ) (h : After b W σ F (mKIn kvs neg φ ρ) fun av ρ' F' H' => ∀ v, RepA b F' H' σ ρ' av v → Q v H') :
    tE b W φ σ H fun y H1 => ∃ (z : Str) (r : Option Value), y = .str z ∧ PySem.W.nsIn X.K d z = some r ∧ Q (.bl (xor neg r.isSome)) H1 := by
  refine runE k h fun av v ρ1 F1 H1 k1 s1 r1 h1 => ?_
  obtain ⟨F2, k2, s2, r2⟩ := k1.stab r1
  obtain ⟨dd, q, h2⟩ := (h1.later s2).read k2 r2
  cases dd with
  | str z =>
    obtain ⟨r, e1, e2⟩ := hz z
    refine ⟨z, r, rStr q, e1, ?_⟩
    rw [e2]
    exact gBl k2 (After.gives (o := some (.fz (.bl (xor neg (getK (dOf kvs) (.inr z)).isSome)))) h2)
  | _ => exact h2.elim
theorem de_kin {x : Str} {kvs : List (Str × D)} {e : Expr} {p : Pos} {φ : M AV} (kd : KdD X x kvs) (he : PE X e (tE b W φ)) (hg : Gl X x := by rfl) (hdb : (x == ("__debug__" : Str)) = false := by decide) (hm : behindInMarks .In (.Name x p) = false := by rfl) : PE X (.Compare e [.In] [.Name x p] pos) (tE b W (mKIn kvs false φ)) := by
  obtain ⟨d, es, n, gm, D0, hz⟩ := kd.at_
  refine weakE (pe_cmpR (op_in_kd D0) he (pe_gref gm hg hdb) hm) fun σ H Q ⟨F, ρ, k, h⟩ => ?_
  obtain ⟨F', ρ', k', h'⟩ := kin_rd (X := X) (d := d) (fun z => let ⟨r, a, b, _⟩ := hz z; ⟨r, a, b⟩) k h
  refine ⟨F', ρ', k', h'.imp fun av ρ2 F2 H2 k2 s2 q v r => ?_⟩
  obtain ⟨z, r0, ez, en, q⟩ := q v r
  exact ⟨z, r0, ez, rfl, en, by simpa using q⟩
theorem dt_kin {x : Str} {kvs : List (Str × D)} {e : Expr} {p : Pos} {φ : M AV} (kd : KdD X x kvs) (he : PE X e (tE b W φ)) (hg : Gl X x := by rfl) (hdb : (x == ("__debug__" : Str)) = false := by decide) (hm : behindInMarks .In (.Name x p) = false := by rfl) : PT X (.Compare e [.In] [.Name x p] pos) (tT b W (mTest (mKIn kvs false φ))) := by
  obtain ⟨d, es, n, gm, D0, hz⟩ := kd.at_
  refine weakT (pt_cmpR (op_in_kd D0) he (pe_gref gm hg hdb) hm) fun σ H Q ⟨F, ρ, k, h⟩ => ?_
  obtain ⟨F', ρ', k', h'⟩ := kin_rd (X := X) (d := d) (Q := fun v H' => ∃ c, v = .bl c ∧ Q c H') (fun z => let ⟨r, a, b, _⟩ := hz z; ⟨r, a, b⟩) k (h.bnd.imp fun av ρ' F' H' k' s' ⟨_, q⟩ v r => by
    obtain ⟨d, q1, h2⟩ := q.read k' r
    obtain ⟨c, rfl, h3⟩ := rd_bl q1 h2
    exact ⟨c, rfl, h3 F' H' k' (Same.refl _)⟩)
  refine ⟨F', ρ', k', h'.imp fun av ρ2 F2 H2 k2 s2 q v r => ?_⟩
  obtain ⟨z, r0, ez, en, c, ec, q⟩ := q v r
  refine ⟨z, r0, ez, rfl, en, c, ?_, q⟩
  rw [← ec]
  simp
theorem de_knotin {x : Str} {kvs : List (Str × D)} {e : Expr} {p : Pos} {φ : M AV} (kd : KdD X x kvs) (he : PE X e (tE b W φ)) (hg : Gl X x := by rfl) (hdb : (x == ("__debug__" : Str)) = false := by decide) (hm : behindInMarks .NotIn (.Name x p) = false := by rfl) : PE X (.Compare e [.NotIn] [.Name x p] pos) (tE b W (mKIn kvs true φ)) := by
  obtain ⟨d, es, n, gm, D0, hz⟩ := kd.at_
  refine weakE (pe_cmpR (op_notIn_kd D0) he (pe_gref gm hg hdb) hm) fun σ H Q ⟨F, ρ, k, h⟩ => ?_
  obtain ⟨F', ρ', k', h'⟩ := kin_rd (X := X) (d := d) (fun z => let ⟨r, a, b, _⟩ := hz z; ⟨r, a, b⟩) k h
  refine ⟨F', ρ', k', h'.imp fun av ρ2 F2 H2 k2 s2 q v r => ?_⟩
  obtain ⟨z, r0, ez, en, q⟩ := q v r
  exact ⟨z, r0, ez, rfl, en, by simpa using q⟩
theorem dt_knotin {x : Str} {kvs : List (Str × D)} {e : Expr} {p : Pos} {φ : M AV} (kd : KdD X x kvs) (he : PE X e (tE b W φ)) (hg : Gl X x := by rfl) (hdb : (x == ("__debug__" : Str)) = false := by decide) (hm : behindInMarks .NotIn (.Name x p) = false := by rfl) : PT X (.Compare e [.NotIn] [.Name x p] pos) (tT b W (mTest (mKIn kvs true φ))) := by
  obtain ⟨d, es, n, gm, D0, hz⟩ := kd.at_
  refine weakT (pt_cmpR (op_notIn_kd D0) he (pe_gref gm hg hdb) hm) fun σ H Q ⟨F, ρ, k, h⟩ => ?_
  obtain ⟨F', ρ', k', h'⟩ := kin_rd (X := X) (d := d) (Q := fun v H' => ∃ c, v = .bl c ∧ Q c H') (fun z => let ⟨r, a, b, _⟩ := hz z; ⟨r, a, b⟩) k (h.bnd.imp fun av ρ' F' H' k' s' ⟨_, q⟩ v r => by
    obtain ⟨d, q1, h2⟩ := q.read k' r
    obtain ⟨c, rfl, h3⟩ := rd_bl q1 h2
    exact ⟨c, rfl, h3 F' H' k' (Same.refl _)⟩)
  refine ⟨F', ρ', k', h'.imp fun av ρ2 F2 H2 k2 s2 q v r => ?_⟩
  obtain ⟨z, r0, ez, en, c, ec, q⟩ := q v r
  refine ⟨z, r0, ez, rfl, en, c, ?_, q⟩
  rw [← ec]
  simp
theorem ix_kd {d : Addr} {es : Array DictEntry} {n : Nat} (D0 : KDict X.K X.w d es n) : IxR X (fun x y H Q => ∃ (z : Str) (u0 : Value) (v0 : V), x = .ref d ∧ y = .str z ∧ PySem.W.nsIn X.K d z = some (some u0) ∧ RelV v0 u0 ∧ Q v0 H) := by
  intro value slice pins s σ H x y v u Q I rx ry h hs
  obtain ⟨z, u0, v0, rfl, rfl, e, r, q⟩ := h
  cases (show v = Value.ref d from rx)
  obtain ⟨t, rfl⟩ := ry
  exact tail_any (kd_type D0 I) PySem.F.slot_dict_getitem.lookup (wpAny_getItem_of (PySem.strKind_is X.prog X.w z t) (PySem.W.mapOf_K (prog := X.prog) I.kIn D0.at_ D0.lit) (PySem.W.find_K D0.at_ e) ⟨v0, H, I.tok _, r, q⟩) hs
theorem de_kix {x : Str} {kvs : List (Str × D)} {e : Expr} {p : Pos} {φ : M AV} (fit : Fit X b) (kd : KdD X x kvs) (he : PE X e (tE b W φ)) (hg : Gl X x := by rfl) (hdb : (x == ("__debug__" : Str)) = false := by decide) (hs : PlainIx e := by exact fun _ _ => rfl) : PE X (.Subscript (.Name x p) e pos) (tE b W (mKIx kvs φ)) := by
  obtain ⟨d, es, n, gm, D0, hz⟩ := kd.at_
  refine weakE (pe_ix (ix_kd D0) (pe_gref gm hg hdb) he hs) fun σ H Q ⟨F, ρ, k, h⟩ => ?_
  refine runE k h fun av v ρ1 F1 H1 k1 s1 r1 h1 => ?_
  obtain ⟨F2, k2, s2, r2⟩ := k1.stab r1
  obtain ⟨dd, q, h2⟩ := (h1.later s2).read k2 r2
  cases dd with
  | str z =>
    obtain ⟨r, e1, e2, e3⟩ := hz z
    have h2 : After b W σ F2 (lift ((getK (dOf kvs) (.inr z)).map AV.fz) ρ1) _ := h2
    cases e0 : getK (dOf kvs) (.inr z) with
    | none => rw [e0] at h2; exact h2.elim
    | some dv =>
      rw [e0] at h2
      obtain ⟨u, v', rfl, hr, hp⟩ := e3 dv e0
      exact ⟨z, u, v', rfl, rStr q, e1, hr, h2 F2 H1 k2 (Same.refl _) v' (by show Rep b.K b.mg F2 dv v'; rw [fit.K, fit.mg]; exact hp F2)⟩
  | _ => exact h2.elim
def tKGet (K : PySem.W.Frag) (d : Addr) (ty tx : TE) : TE := fun σ H Q => ty σ H fun y H2 => tx σ H2 fun z H3 => ∃ (s : Str) (r : Option Value), y = .str s ∧ PySem.W.nsIn K d s = some r ∧ (∀ u, r = some u → ∃ v, RelV v u ∧ Q v H3) ∧ (r = none → Q z H3)
theorem pe_kget {d : Addr} {es : Array DictEntry} {n : Nat} {x : Str} {p apos cpos : Pos} {e f : Expr} {ty tx : TE} (D0 : KDict X.K X.w d es n) (hm : X.mg x = some (.ref d)) (hg : Gl X x) (hdb : (x == ("__debug__" : Str)) = false) (he : PE X e ty) (hf : PE X f tx) (m : M2 X (.Name x p) "get" apos e f cpos) : PE X (.Call (.Attribute (.Name x p) "get" apos) [e, f] [] cpos) (tKGet X.K d ty tx) := ⟨fun pins s σ H Q I h =>
  wpAny_Call_method m.base m.few m.line PySem.F.plainAttrs_dict PySem.F.slot_dict_get PySem.F.type_dict_get (ld_glob I hg hm (by
    refine ⟨kd_type D0 I, fun c ec => ?_, ?_⟩
    · cases ec
      exact ⟨_, I.kIn _ _ D0.at_, rfl⟩
    · rw [m.trees]
      refine Calls.callWith_builtin rfl (Calls.evalArgs_plain (Calls.spliced_cons (thn (he.run pins s σ H _ I h) fun iv s2 ⟨y, H2, I2, ry, q2⟩ => Calls.spliced_cons (thn (hf.run pins s2 σ H2 _ I2 q2) fun fv s3 ⟨z, H3, I3, rz, t, r, ey, en, q4, q5⟩ => Calls.spliced_nil ?_))))
      subst ey
      obtain ⟨tk, rfl⟩ := ry
      refine call_meetsIn PySem.F.slot_dict_get (kd_type D0 I3) PySem.F.entry_dict_get (PySem.F.args_dict_get_3 _ _ _) (meets_dict_get_default (strKind X.prog X.w) d (PySem.strKind_is X.prog X.w t tk) D0.low fv) ⟨_, PySem.W.mapOf_K (prog := X.prog) I3.kIn D0.at_ D0.lit, ?_⟩
      rw [PySem.W.find_K D0.at_ en]
      cases r with
      | none => exact ⟨z, H3, I3.tok _, rz, q5 rfl⟩
      | some u =>
        obtain ⟨v, rv, q⟩ := q4 u rfl
        exact ⟨v, H3, I3.tok _, rv, q⟩) hdb)⟩
theorem de_kget {x : Str} {kvs : List (Str × D)} {e f : Expr} {p apos cpos : Pos} {φ ψ : M AV} (fit : Fit X b) (kd : KdD X x kvs) (he : PE X e (tE b W φ)) (hf : PE X f (tE b W ψ)) (hg : Gl X x := by rfl) (hdb : (x == ("__debug__" : Str)) = false := by decide) (m : M2 X (.Name x p) "get" apos e f cpos := by exact ⟨rfl, rfl, rfl, rfl⟩) :
    PE X (.Call (.Attribute (.Name x p) "get" apos) [e, f] [] cpos) (tE b W (mKGet kvs φ ψ)) := by
  obtain ⟨d, es, n, gm, D0, hz⟩ := kd.at_
  refine weakE (pe_kget D0 gm hg hdb he hf m) fun σ H Q ⟨F, ρ, k, h⟩ => ?_
  refine runE k h fun av y ρ1 F1 H1 k1 s1 r1 h1 => ?_
  obtain ⟨F1', k1', s1', r1'⟩ := k1.stab r1
  refine runE k1' (h1.later s1') fun av2 z ρ2 F2 H2 k2 s2 r2 h2 => ?_
  obtain ⟨F2', k2', s2', r2'⟩ := k2.stab r2
  obtain ⟨dk, ρ3, F3, k3, s3, q1, h3⟩ := After.froze k2' (r1'.stays (s2.trans s2')) (h2.later s2')
  obtain ⟨dx, ρ4, F4, k4, s4, q2, h4⟩ := After.froze k3 (r2'.stays s3) h3
  cases dk with
  | str t =>
    have ey : y = .str t := by
      have q1 : Rep b.K b.mg F3 (.str t) y := q1
      unfold Rep at q1
      exact q1
    obtain ⟨r, e1, e2, e3⟩ := hz t
    have h4 : After b W σ F4 ((M.ret (AV.fz ((getK (dOf kvs) (.inr t)).getD dx)) : M AV) ρ4) (fun av ρ' F' H' => ∀ v, RepA b F' H' σ ρ' av v → Q v H') := h4
    refine ⟨t, r, ey, e1, fun u eu => ?_, fun en => ?_⟩
    · cases e0 : getK (dOf kvs) (.inr t) with
      | none => rw [eu, e0] at e2; cases e2
      | some dv =>
        rw [e0] at h4
        obtain ⟨u', v', eu', hr, hp⟩ := e3 dv e0
        rw [eu] at eu'
        cases eu'
        exact ⟨v', hr, h4 F4 H2 k4 (Same.refl _) v' (by show Rep b.K b.mg F4 dv v'; rw [fit.K, fit.mg]; exact hp F4)⟩
    · cases e0 : getK (dOf kvs) (.inr t) with
      | some dv => rw [en, e0] at e2; cases e2
      | none =>
        rw [e0] at h4
        exact h4 F4 H2 k4 (Same.refl _) z q2
  | _ => exact h4.elim
end
end DL

namespace DL
open PySem PySem.Spec PyProof.Rows L2

/-! ### DL26: == and != by an own __eq__, isinstance with an own class -/
/-- what the top says of a class with an own __eq__ -/
structure ClE (P : Program) (w : World) (K : PySem.W.Frag) (mg : Str → Option Value) (base : Heap) (k : Nat) (c : Str) (f : Fn) : Prop where
  ex : ∃ C fa fd ps, mg c = some (.ref C) ∧ PySem.W.findIn K (.ref C) "__eq__" = some (some (.ref fa)) ∧ PySem.W.isFn K (.ref fa) = true ∧ PySem.W.findIn K (.ref C) "__ne__" = some (some (.builtin "object.__ne__")) ∧ PySem.W.subIn K (.ref C) (.type "object") = some true ∧
    FnG P w K mg base k fa fd ps (spD K mg 2 f) ∧ Binds K fd ps []
section
variable {X : Cx} {k : Nat} {C f : Addr} {fd : FuncData} {ps : List Str} {sp : Sp} {E : L2.St → XK}
theorem run_fnA {A : Around} {pins : List (Addr × Obj)} {σ : L2.St} {H : Hp} {s : Shared} {Q : VK} {us : List Value} {vs : List V} (F : FnG X.prog X.w X.K X.mg X.base k f fd ps sp) (hr : Room k A) (hfr : A.frames = X.A.frames) (hg : A.guards = some []) (hb : Binds X.K fd ps []) (hx : PassesAt (L2.CX X.prog X.w) X σ (E σ))
    (I : L2.Inv X pins σ H s) (r : Vals vs us) (h : sp vs H Q (E σ)) : wpAny (model X.prog X.w) A (call (.ref f) us) (EP X pins σ Q) X.xe s := by
  have e0 : Env0 X.prog X.w X.K X.mg X.base A X.stack s H := by
    have e := I.env0
    exact ⟨by rw [hfr]; exact e.frames, e.mod, e.bs, e.bsz, e.funs, e.frf, e.hok, e.bare⟩
  have hl : us.length = ps.length := by rw [← r.length]; exact F.len _ _ _ _ h
  have b := hb s us I.kIn (by rw [List.append_nil]; exact hl)
  rw [List.append_nil] at b
  refine wpAny_call (codeAny_mono (F.run A X.stack s H ⟨us, []⟩ us vs Q (E σ) hr hg e0 b r h) fun r s' hq => ?_)
  cases r with
  | error er => exact hx pins H s er s' I hq
  | ok fl => cases fl with
    | ret u => exact I.after hq
    | next => exact False.elim hq
    | brk => exact False.elim hq
    | cont => exact False.elim hq
/-- what an own __eq__ is asked: a bool comes -/
def rOwn (C : Addr) (sp : Sp) (E : XK) (ne : Bool) : R2 := fun x y H Q => ∃ a b dx dy fs gs, x = .ref a ∧ y = .ref b ∧ H a = some (.ins C dx fs) ∧ H b = some (.ins C dy gs) ∧ sp [.ref a, .ref b] H (fun v H' => ∃ c, v = .bl c ∧ Q (.bl (xor ne c)) H') E
theorem own_eq {pins : List (Addr × Obj)} {s : Shared} {σ : L2.St} {H : Hp} {x y : V} {v u : Value} {Q : VK} (F : FnG X.prog X.w X.K X.mg X.base k f fd ps sp) (hs : PySem.W.findIn X.K (.ref C) "__eq__" = some (some (.ref f))) (hf : PySem.W.isFn X.K (.ref f) = true) (hb : Binds X.K fd ps []) (hr : Room k X.A) (hg : X.A.guards = some []) (hx : PassesAt (L2.CX X.prog X.w) X σ (E σ))
    (I : Inv X pins σ H s) (rx : RelV x v) (ry : RelV y u) (h : rOwn C sp (E σ) false x y H Q) : wpAny (model X.prog X.w) X.A (compareOp .Eq v u) (EP X pins σ Q) X.xe s := by
  obtain ⟨a, b, dx, dy, fs, gs, rfl, rfl, ha, hb', q⟩ := h
  cases rx
  cases ry
  obtain ⟨mA, J, _⟩ := ins_get I.hok ha
  obtain ⟨mB, J', _⟩ := ins_get I.hok hb'
  obtain ⟨od, J, _⟩ := J.look
  obtain ⟨od', J', _⟩ := J'.look
  obtain ⟨m, hF⟩ := I.fr
  show wpAny (model X.prog X.w) X.A (richCompare .Eq (.ref a) (.ref b)) _ _ _
  refine PySem.W.cmp_K (op := .Eq) (tb := .ref C) hr.units0 hF I.ok.mod.kin J J'.type (by simp [PySem.W.notFirst]) hs hf ?_
  refine wpAny_mono (run_fnA F hr rfl hg hb hx I (.cons (show RelV (V.ref a) (Value.ref a) from rfl) (.cons (show RelV (V.ref b) (Value.ref b) from rfl) .nil)) q) (fun r s' z => ?_) fun _ _ e => e
  obtain ⟨v, H', I', rv, c, ev, q⟩ := z
  subst ev
  cases rv
  exact ⟨.bl c, H', I', rfl, by simpa using q⟩
theorem check_obj {A : Around} {E : Value → Shared → Prop} {s : Shared} {K : PySem.W.Frag} {M : Model} {x : Addr} {ox : Obj} {od : Option Obj} {rest : List Value} {Q : Unit → Shared → Prop} (Xk : K.In s.heap) (J : PySem.W.InstAt s.heap x ox C od) (hob : PySem.W.subIn K (.ref C) (.type "object") = some true) (ha : argsOk "object.__ne__" ⟨.ref x :: rest, []⟩) (h : Q () s) :
    wpAny M A (checkBuiltinCall "object.__ne__" ⟨.ref x :: rest, []⟩) Q E s :=
  PySem.W.check_slot PySem.F.cmpKind_ne PySem.F.cmpSplit_ne (J.type.andThen (PySem.W.looks_subIn Xk hob)) ha h
theorem own_ne {pins : List (Addr × Obj)} {s : Shared} {σ : L2.St} {H : Hp} {x y : V} {v u : Value} {Q : VK} (F : FnG X.prog X.w X.K X.mg X.base k f fd ps sp) (hs : PySem.W.findIn X.K (.ref C) "__eq__" = some (some (.ref f))) (hf : PySem.W.isFn X.K (.ref f) = true) (hn : PySem.W.findIn X.K (.ref C) "__ne__" = some (some (.builtin "object.__ne__"))) (hob : PySem.W.subIn X.K (.ref C) (.type "object") = some true)
    (hb : Binds X.K fd ps []) (hr : Room (k + 1) X.A) (hg : X.A.guards = some []) (hx : PassesAt (L2.CX X.prog X.w) X σ (E σ))
    (I : Inv X pins σ H s) (rx : RelV x v) (ry : RelV y u) (h : rOwn C sp (E σ) true x y H Q) : wpAny (model X.prog X.w) X.A (compareOp .NotEq v u) (EP X pins σ Q) X.xe s := by
  obtain ⟨a, b, dx, dy, fs, gs, rfl, rfl, ha, hb', q⟩ := h
  cases rx
  cases ry
  obtain ⟨mA, J, _⟩ := ins_get I.hok ha
  obtain ⟨mB, J', _⟩ := ins_get I.hok hb'
  obtain ⟨od, J, _⟩ := J.look
  obtain ⟨od', J', _⟩ := J'.look
  obtain ⟨m, hF⟩ := I.fr
  have hX := I.kIn
  show wpAny (model X.prog X.w) X.A (richCompare .NotEq (.ref a) (.ref b)) _ _ _
  unfold richCompare
  simp only [oneThing_ref]
  refine wpAny_holding (wpAny_bind (wpAny_cRoomFor hr.units0 ?_))
  refine wpAny_bind (J.type.here (wpAny_bind (J'.type.here ?_)))
  rw [show (Value.ref C != Value.ref C) = false from by simp]
  simp only [Bool.false_eq_true, if_false]
  refine wpAny_bind (wpAny_pure ?_)
  simp only [Bool.false_eq_true, if_false]
  have one : wpAny (model X.prog X.w) X.A (tryCompare (.ref a) "__ne__" (.ref b)) (fun r s' => ∃ v, r = some v ∧ EP X pins σ Q v s') X.xe s := by
    unfold tryCompare
    simp only [callSpecialIfBound?, bindSpecialIfBound?]
    refine wpAny_bind (wpAny_holding (wpAny_bind (wpAny_bind (wpAny_bind (J.type.here ((PySem.W.looks_findIn hX hn).here ?_))))))
    simp only [PySem.F.cmp_object.ne.bind]
    have fin : wpAny (model X.prog X.w) X.A (call (.builtin "object.__ne__") ([.ref a] ++ [.ref b])) (fun v s' => ∃ c, v = .bool c ∧ EP X pins σ Q v s') X.xe s := by
      refine wpAny_call (codeAny_call_builtin PySem.F.cmp_object.ne.plain PySem.F.cmpEntry_ne (check_obj (rest := [.ref b]) hX J hob (PySem.F.cmpArgs_ne _ _) ?_))
      unfold Builtin.«object.__ne__»
      repeat (first
        | with_reducible refine wpAny_cRoomFor (A := X.A.in1) (show X.A.in1.units < cLine from hr.in1.units0) ?_
        | (refine wpAny_bind (m := callSpecialIfBound? (.ref a) (Str.ofString "__eq__") [.ref b])
            (PySem.W.ifBound_K hX J hs hf (wpAny_mono (run_fnA F hr.in1 rfl hg hb hx I (.cons (show RelV (V.ref a) (Value.ref a) from rfl) (.cons (show RelV (V.ref b) (Value.ref b) from rfl) .nil)) q) (fun r s' z => by
              obtain ⟨v, H', I', rv, c, ev, q⟩ := z
              subst ev
              cases rv
              have q : Q (.bl (!c)) H' := by simpa using q
              have q : ∃ d, (Value.bool (!c)) = .bool d ∧ EP X pins σ Q (.bool (!c)) s' := ⟨!c, rfl, .bl (!c), H', I', rfl, q⟩
              repeat (first | exact q | exact wpAny_pure q | exact wpAny_truthy_bool q | (refine wpAny_bind (m := truthy (.bool _)) (wpAny_truthy_bool ?_)) | wp_step)) fun _ _ e => e)))
        | wp_step)
    refine wpAny_bind (wpAny_askSetting (wpAny_ite ?_))
    have fin2 : wpAny (model X.prog X.w) X.A (call (.builtin "object.__ne__") ([.ref a] ++ [.ref b]) >>= fun v => pure (some v)) (fun a_1 s' => wpAny (model X.prog X.w) X.A (match a_1 with
      | some Value.notImplemented => pure none
      | none => pure none
      | some v => pure (some v)) (fun r s' => ∃ v, r = some v ∧ EP X pins σ Q v s') X.xe s') X.xe s := wpAny_bind (wpAny_mono fin (fun v s' hv => wpAny_pure (by
        obtain ⟨c, rfl, hv⟩ := hv
        exact wpAny_pure ⟨_, rfl, hv⟩)) fun _ _ e => e)
    split
    · exact wpAny_bind (wpAny_pure (wpAny_pure fin2))
    · exact wpAny_tryCatch (wpAny_bind (wpAny_pure (wpAny_pure fin2)))
  refine wpAny_bind (wpAny_mono one (fun r s' z => ?_) fun _ _ e => e)
  obtain ⟨v, rfl, hq⟩ := z
  exact wpAny_pure hq
/-! the rules -/
def mOwn (c : Str) (ne : Bool) (f : Fn) (φ ψ : M AV) : M AV := φ.bnd fun a => (frz (stab a)).bnd fun d => ψ.bnd fun a2 => (frz (stab a2)).bnd fun e => match insF c d, insF c e with
  | some _, some _ => (mFn 2 f [.fz d, .fz e]).bnd fun r => (rd (stab r)).bnd fun g => match g with
    | .bl k => M.ret (.fz (.bl (xor ne k)))
    | _ => M.stuck
  | _, _ => M.stuck
end
section
variable {X : Cx} {b : Bs} {W : WX} {pos : Pos} {k : Nat} {C f : Addr} {fd : FuncData} {ps : List Str} {sp : Sp} {E : L2.St → XK}
def tOwn (C : Addr) (sp : Sp) (E : L2.St → XK) (ne : Bool) (ta tb : TE) : TE := fun σ H Q => tOp (rOwn C sp (E σ) ne) ta tb σ H Q
theorem pe_own {op : CmpOp} {ne : Bool} {a c : Expr} {ta tb : TE} (ho : ∀ (pins : List (Addr × Obj)) (s : Shared) (σ : L2.St) (H : Hp) (x y : V) (v u : Value) (Q : VK), Inv X pins σ H s → RelV x v → RelV y u → rOwn C sp (E σ) ne x y H Q → wpAny (model X.prog X.w) X.A (compareOp op v u) (EP X pins σ Q) X.xe s)
    (ha : PE X a ta) (hb : PE X c tb) (hm : behindInMarks op c = false) : PE X (.Compare a [op] [c] pos) (tOwn C sp E ne ta tb) := by
  refine ⟨fun pins s σ H Q I h => ?_⟩
  exact wpAny_Compare1 (binT ha hb I h fun v u s2 x y H2 I2 rx ry q => ho pins s2 σ H2 x y v u Q I2 rx ry q) hm
theorem pt_own {op : CmpOp} {ne : Bool} {a c : Expr} {ta tb : TE} (ho : ∀ (pins : List (Addr × Obj)) (s : Shared) (σ : L2.St) (H : Hp) (x y : V) (v u : Value) (Q : VK), Inv X pins σ H s → RelV x v → RelV y u → rOwn C sp (E σ) ne x y H Q → wpAny (model X.prog X.w) X.A (compareOp op v u) (EP X pins σ Q) X.xe s)
    (ha : PE X a ta) (hb : PE X c tb) (hm : behindInMarks op c = false) : PT X (.Compare a [op] [c] pos) (tTest (tOwn C sp E ne ta tb)) := by
  refine ⟨fun pins s σ H Q I h => ?_⟩
  refine wpAny_isTrue_Compare1 (thn (ha.run pins s σ H _ I h) fun v s1 ⟨x, H1, I1, r1, q1⟩ => thn (hb.run pins s1 σ H1 _ I1 q1) fun u s2 ⟨y, H2, I2, r2, q2⟩ =>
    thn (ho pins s2 σ H2 x y v u _ I2 r1 r2 q2) fun c s3 ⟨z, H3, I3, r3, k, e, q3⟩ => ?_) hm
  subst e
  cases r3
  exact wpAny_truthy_bool ⟨H3, I3, q3⟩
theorem own_sp {c : Str} {ne : Bool} {f : Fn} {φ ψ : M AV} {σ : L2.St} {H F : Hp} {ρ : DL.Env} {Q : VK} (fit : Fit X b) (gC : X.mg c = some (.ref C)) (k : Ok b ρ F H σ) (h : After b W σ F (mOwn c ne f φ ψ ρ) fun av ρ' F' H' => ∀ v, RepA b F' H' σ ρ' av v → Q v H') :
    tOwn C (spD X.K X.mg 2 f) (fun σ => fun c dd H' => W c dd σ H') ne (tE b W φ) (tE b W ψ) σ H Q := by
  refine runE k h fun av y ρ1 F1 H1 k1 s1 r1 h1 => ?_
  obtain ⟨F1', k1', s1', r1'⟩ := k1.stab r1
  obtain ⟨d, ρ2, F2, k2, s2, q1, h2⟩ := After.froze k1' r1' (h1.later s1')
  refine runE k2 h2 fun av2 z ρ3 F3 H3 k3 s3 r3 h3 => ?_
  obtain ⟨F3', k3', s3', r3'⟩ := k3.stab r3
  obtain ⟨e, ρ4, F4, k4, s4, q2, h4⟩ := After.froze k3' r3' (h3.later s3')
  have q1 := Rep.mono (s3.trans (s3'.trans s4)) q1
  have key : ∀ {dd : D} {v : V}, Rep b.K b.mg F4 dd v → ∀ fs, insF c dd = some fs → ∃ a dx vs, v = .ref a ∧ H3 a = some (.ins C dx vs) := by
    intro dd v r fs hf
    cases dd with
    | ins c' gs =>
      have hf : (if c' = c then some gs else none) = some fs := hf
      by_cases hc : c' = c
      · subst hc
        obtain ⟨a, C', dx, vs, rfl, m, hH, rf⟩ := RepD.ins k4.sub (.inl r)
        rw [fit.mg, gC] at m
        cases m
        exact ⟨a, dx, vs, rfl, hH⟩
      · rw [if_neg hc] at hf
        cases hf
    | _ => cases hf
  cases e1 : insF c d with
  | none => rw [e1] at h4; exact h4.elim
  | some fs =>
    cases e2 : insF c e with
    | none => rw [e1, e2] at h4; exact h4.elim
    | some gs =>
      rw [e1, e2] at h4
      obtain ⟨a, dx, vs, rfl, hH⟩ := key q1 fs e1
      obtain ⟨a2, dx2, vs2, rfl, hH2⟩ := key q2 gs e2
      refine ⟨a, a2, dx, dx2, vs, vs2, rfl, rfl, hH, hH2, ?_⟩
      have z := called_sp (n := 2) (avs := [.fz d, .fz e]) (vs := [.ref a, .ref a2]) (Q := fun v H' => ∃ c, v = .bl c ∧ Q (.bl (xor ne c)) H') k4 (.cons (show RepA b F4 H3 σ ρ4 (.fz d) (.ref a) from q1) (fun d e => by cases e) (.cons (show RepA b F4 H3 σ ρ4 (.fz e) (.ref a2) from q2) (fun d e => by cases e) .nil)) (h4.bnd.imp fun av5 ρ5 F5 H5 k5 s5 ⟨_, h5⟩ v r5 => by
        obtain ⟨F6, k6, s6, r6⟩ := k5.stab r5
        obtain ⟨g, q5, h6⟩ := (h5.later s6).read k6 r6
        cases g with
        | bl x =>
          have ev : v = .bl x := rBl q5
          exact ⟨x, ev, gBl k6 (After.gives (o := some (.fz (.bl (xor ne x)))) h6)⟩
        | _ => exact h6.elim)
      rw [fit.K, fit.mg] at z
      exact z
theorem de_oweq {j k : Nat} {c : Str} {f : Fn} {e e2 : Expr} {φ ψ : M AV} (fit : Fit X b) (tk : Takes X W) (ce : ClE X.prog X.w X.K X.mg X.base k c f) (room : Room j X.A) (hk : k ≤ j) (gd : X.A.guards = some []) (h1 : PE X e (tE b W φ)) (h2 : PE X e2 (tE b W ψ)) (hm : behindInMarks .Eq e2 = false := by exact nomark _) :
    PE X (.Compare e [.Eq] [e2] pos) (tE b W (mOwn c false f φ ψ)) := by
  obtain ⟨C, fa, fd, ps, gC, he, hf, _, _, F0, hb⟩ := ce.ex
  exact weakE (pe_own (C := C) (sp := spD X.K X.mg 2 f) (E := fun σ c dd H' => W c dd σ H') (ne := false) (fun pins s σ H x y v u Q I rx ry q => own_eq (E := fun σ c dd H' => W c dd σ H') F0 he hf hb (room.mono hk) gd (passAt tk σ) I rx ry q) h1 h2 hm) fun σ H Q ⟨F, ρ, k, h⟩ => own_sp fit gC k h
theorem dt_oweq {j k : Nat} {c : Str} {f : Fn} {e e2 : Expr} {φ ψ : M AV} (fit : Fit X b) (tk : Takes X W) (ce : ClE X.prog X.w X.K X.mg X.base k c f) (room : Room j X.A) (hk : k ≤ j) (gd : X.A.guards = some []) (h1 : PE X e (tE b W φ)) (h2 : PE X e2 (tE b W ψ)) (hm : behindInMarks .Eq e2 = false := by exact nomark _) :
    PT X (.Compare e [.Eq] [e2] pos) (tT b W (mTest (mOwn c false f φ ψ))) := by
  obtain ⟨C, fa, fd, ps, gC, he, hf, _, _, F0, hb⟩ := ce.ex
  exact weakT (pt_own (C := C) (sp := spD X.K X.mg 2 f) (E := fun σ c dd H' => W c dd σ H') (ne := false) (fun pins s σ H x y v u Q I rx ry q => own_eq (E := fun σ c dd H' => W c dd σ H') F0 he hf hb (room.mono hk) gd (passAt tk σ) I rx ry q) h1 h2 hm) fun σ H Q ⟨F, ρ, k, h⟩ => own_sp (Q := fun v H' => ∃ c, v = .bl c ∧ Q c H') fit gC k (h.bnd.imp fun av ρ' F' H' k' s' ⟨_, q⟩ v r => by
    obtain ⟨d, q1, h2⟩ := q.read k' r
    obtain ⟨c, rfl, h3⟩ := rd_bl q1 h2
    exact ⟨c, rfl, h3 F' H' k' (Same.refl _)⟩)
theorem de_owne {j k : Nat} {c : Str} {f : Fn} {e e2 : Expr} {φ ψ : M AV} (fit : Fit X b) (tk : Takes X W) (ce : ClE X.prog X.w X.K X.mg X.base k c f) (room : Room j X.A) (hk : k + 1 ≤ j) (gd : X.A.guards = some []) (h1 : PE X e (tE b W φ)) (h2 : PE X e2 (tE b W ψ)) (hm : behindInMarks .NotEq e2 = false := by exact nomark _) :
    PE X (.Compare e [.NotEq] [e2] pos) (tE b W (mOwn c true f φ ψ)) := by
  obtain ⟨C, fa, fd, ps, gC, he, hf, hn, ho, F0, hb⟩ := ce.ex
  exact weakE (pe_own (C := C) (sp := spD X.K X.mg 2 f) (E := fun σ c dd H' => W c dd σ H') (ne := true) (fun pins s σ H x y v u Q I rx ry q => own_ne (E := fun σ c dd H' => W c dd σ H') F0 he hf hn ho hb (room.mono hk) gd (passAt tk σ) I rx ry q) h1 h2 hm) fun σ H Q ⟨F, ρ, k, h⟩ => own_sp fit gC k h
theorem dt_owne {j k : Nat} {c : Str} {f : Fn} {e e2 : Expr} {φ ψ : M AV} (fit : Fit X b) (tk : Takes X W) (ce : ClE X.prog X.w X.K X.mg X.base k c f) (room : Room j X.A) (hk : k + 1 ≤ j) (gd : X.A.guards = some []) (h1 : PE X e (tE b W φ)) (h2 : PE X e2 (tE b W ψ)) (hm : behindInMarks .NotEq e2 = false := by exact nomark _) :
    PT X (.Compare e [.NotEq] [e2] pos) (tT b W (mTest (mOwn c true f φ ψ))) := by
  obtain ⟨C, fa, fd, ps, gC, he, hf, hn, ho, F0, hb⟩ := ce.ex
  exact weakT (pt_own (C := C) (sp := spD X.K X.mg 2 f) (E := fun σ c dd H' => W c dd σ H') (ne := true) (fun pins s σ H x y v u Q I rx ry q => own_ne (E := fun σ c dd H' => W c dd σ H') F0 he hf hn ho hb (room.mono hk) gd (passAt tk σ) I rx ry q) h1 h2 hm) fun σ H Q ⟨F, ρ, k, h⟩ => own_sp (Q := fun v H' => ∃ c, v = .bl c ∧ Q c H') fit gC k (h.bnd.imp fun av ρ' F' H' k' s' ⟨_, q⟩ v r => by
    obtain ⟨d, q1, h2⟩ := q.read k' r
    obtain ⟨c, rfl, h3⟩ := rd_bl q1 h2
    exact ⟨c, rfl, h3 F' H' k' (Same.refl _)⟩)
end
/-! isinstance(x, C), C an own class -/
structure InsK (K : PySem.W.Frag) (C : Addr) : Prop where
  cl : Cls K C
  ha : PySem.W.findIn K (.ref C) "__class__" = some (some (.builtin "object.__class__"))
  hn : PySem.W.specialIn K (.builtin "object.__class__") "__get__" = some (some (.builtin "getset_descriptor.__get__"))
  htk : PySem.W.takesIn K (.builtin "object.__class__") = some true
  hm : PySem.W.mroIn K C (.type "object") = some true
def insB (K : PySem.W.Frag) (c : Str) : Bool := (He.Fa.cls c).ok K && (decide (PySem.W.findIn K (.ref (He.ga K c)) "__class__" = some (some (.builtin "object.__class__"))) && (decide (PySem.W.specialIn K (.builtin "object.__class__") "__get__" = some (some (.builtin "getset_descriptor.__get__"))) && (decide (PySem.W.takesIn K (.builtin "object.__class__") = some true) && decide (PySem.W.mroIn K (He.ga K c) (.type "object") = some true))))
theorem insB_ok {K : PySem.W.Frag} {c : Str} (h : insB K c = true) : InsK K (He.ga K c) := by
  unfold insB at h
  simp only [Bool.and_eq_true, decide_eq_true_eq] at h
  obtain ⟨h1, h2, h3, h4, h5⟩ := h
  exact ⟨He.cls_ok h1, h2, h3, h4, h5⟩
def tyL : List String := ["NoneType", "bool", "int", "str", "tuple", "list", "dict"]
structure ClK (X : Cx) (c : Str) (own : List (Str × Bool)) : Prop where
  ex : ∃ C, X.mg c = some (.ref C) ∧ (∀ t ∈ tyL, PySem.W.kitOne X.K (.type t) (.ref C) = some false) ∧ ∀ q ∈ own, ∃ C', X.mg q.1 = some (.ref C') ∧ InsK X.K C' ∧ PySem.W.kitOne X.K (.ref C') (.ref C) = some q.2
def isoB (c : Str) (own : List (Str × Bool)) (K : PySem.W.Frag) : Bool := (He.Fa.glo c).ok K && ((tyL.all fun t => decide (PySem.W.kitOne K (.type t) (.ref (He.ga K c)) = some false)) && own.all fun q => (He.Fa.glo q.1).ok K && (insB K q.1 && decide (PySem.W.kitOne K (.ref (He.ga K q.1)) (.ref (He.ga K c)) = some q.2)))
theorem ClK.mk' {X : Cx} {K : PySem.W.Frag} {h : Heap} {mg : Str → Option Value} {c : Str} {own : List (Str × Bool)} (eK : X.K = K) (eM : X.mg = mg) (Xk : K.In h) (G : h.Ns mainGlobals mg) (hb : isoB c own K = true) : ClK X c own := by
  subst eK eM
  unfold isoB at hb
  simp only [Bool.and_eq_true] at hb
  obtain ⟨h1, h2, h3⟩ := hb
  refine ⟨_, He.glo_ok Xk G h1, fun t ht => of_decide_eq_true (List.all_eq_true.mp h2 t ht), fun q hq => ?_⟩
  have z := List.all_eq_true.mp h3 q hq
  simp only [Bool.and_eq_true] at z
  exact ⟨_, He.glo_ok Xk G z.1, insB_ok z.2.1, of_decide_eq_true z.2.2⟩
def isiC (own : List (Str × Bool)) : D → Option Bool
  | .ins c _ => own.lookup c
  | d => (tyN d).map fun _ => false
theorem lookup_mem {α : Type} {x : Str} {r : α} : ∀ {l : List (Str × α)}, l.lookup x = some r → (x, r) ∈ l
  | [], h => by cases h
  | (k, v) :: l, h => by
    rw [List.lookup] at h
    cases e : x == k with
    | true =>
      rw [e] at h
      cases h
      rw [eq_of_beq e]
      exact List.mem_cons_self
    | false =>
      rw [e] at h
      exact List.mem_cons_of_mem _ (lookup_mem h)
section
variable {X : Cx} {b : Bs} {W : WX} {pos : Pos}
theorem isiC_ok {C : Addr} {own : List (Str × Bool)} (hT : ∀ t ∈ tyL, PySem.W.kitOne X.K (.type t) (.ref C) = some false) (ho : ∀ q ∈ own, ∃ C', X.mg q.1 = some (.ref C') ∧ InsK X.K C' ∧ PySem.W.kitOne X.K (.ref C') (.ref C) = some q.2) : IsiOk X (.ref C) (isiC own) := by
  intro b F H d v r fit sb rd h
  have flat : ∀ t, tyN d = some t → ((tyN d).map fun _ => false) = some r → ∃ t, TyX X.K H v t ∧ PySem.W.kitOne X.K t (.ref C) = some r := by
    intro t e e2
    rw [e] at e2
    cases e2
    refine ⟨_, tyN_ok fit sb rd e, hT t ?_⟩
    cases d <;> cases e <;> simp [tyL]
  cases d with
  | ins c fs =>
    obtain ⟨a, C', dx, vs, rfl, m, hH, rf⟩ := RepD.ins sb rd
    obtain ⟨C2, m2, k, z⟩ := ho _ (lookup_mem (show own.lookup c = some r from h))
    rw [fit.mg, m2] at m
    cases m
    exact ⟨_, .base (.ins hH k.cl k.ha k.hn k.htk k.hm), z⟩
  | non => exact flat _ rfl h
  | bl _ => exact flat _ rfl h
  | int _ => exact flat _ rfl h
  | str _ => exact flat _ rfl h
  | tup _ => exact flat _ rfl h
  | lst _ => exact flat _ rfl h
  | scr _ => exact flat _ rfl h
  | dct _ => exact flat _ rfl h
theorem de_isiO {p p2 : Pos} {c : Str} {own : List (Str × Bool)} {e : Expr} {φ : M AV} (fit : Fit X b) (ck : ClK X c own) (he : PE X e (tE b W φ)) (hm : X.mg "isinstance" = none) (hgc : Gl X c := by rfl) (hdb : (c == ("__debug__" : Str)) = false := by decide) (hg : Gl X "isinstance" := by rfl) (hv : bootBuiltins "isinstance" = some (.builtin "isinstance") := by kernel_rfl)
    (hs : starEach [e, .Name c p2] X.env = (false, eval e X.env) :: starEach [.Name c p2] X.env := by rfl) (hs2 : starEach [.Name c p2] X.env = (false, eval (.Name c p2) X.env) :: starEach [] X.env := by rfl) (hpl : (backTo pos (starEach [.Name c p2] X.env)).any (·.1) = false := by rfl) :
    PE X (.Call (.Name "isinstance" p) [e, .Name c p2] [] pos) (tE b W (mIsi (isiC own) φ)) := by
  obtain ⟨C, gC, hT, ho⟩ := ck.ex
  exact de_isi fit (isiC_ok hT ho) (.own C) (pe_gref gC hgc hdb) he hm hg hv hs hs2 hpl
end
end DL

namespace DL
open PySem PySem.Spec PyProof.Rows L2

/-! ### DL27: range with a step, enumerate with a start, zip of tuples -/
def IteL (K : PySem.W.Frag) (a : Addr) (k₀ : Int) : It :=
  ⟨fun i H => ∃ (xs : List V) (x : V), SqL K H a xs ∧ xs[i]? = some x, fun i H v H' => ∃ T x, v = .ref T ∧ H T = none ∧ H' = upd H T (.tup [.int (k₀ + (i : Int)), x]) ∧ ∀ xs, SqL K H a xs → xs[i]? = some x, fun i H => ∃ xs : List V, SqL K H a xs ∧ xs.length = i⟩
theorem turn_enumL {P : Program} {w : World} {K : PySem.W.Frag} {elts : List Expr} {kk : Nat} {tpos : Pos} (a e it : Addr) (k₀ : Int) :
    Turn P w K (.Tuple elts kk tpos) (IteL K a k₀) [e, it] e (fun i h => (∃ old, IsEnum h e it (k₀ + (i : Int)) old) ∧ h.IsListIter it a i ∧ e ≠ it) where
  mem := by simp
  obj := fun i h st b hb => by
    obtain ⟨⟨old, he⟩, ⟨o, ho, hc, hd⟩, _⟩ := st
    have e' : b = e ∨ b = it := by simpa using hb
    rcases e' with z | z
    · rw [z]; exact ⟨_, he, fun v q => nomatch q⟩
    · rw [z]; exact ⟨o, ho, fun v q => by rw [hd] at q; cases q⟩
  keep := fun i h h' st k => let ⟨⟨old, he⟩, hi, hne⟩ := st; ⟨⟨old, k e (by simp) _ he⟩, hi.at fun o q => k it (by simp) o q, hne⟩
  item := by
    intro X hP hw hK hc i pins s σ H E I hf st hg
    subst hP hw hK
    obtain ⟨⟨old, he⟩, hit, hne⟩ := st
    obtain ⟨xs, x, hq, hx⟩ := hg
    have ⟨its, rv, p, hz⟩ := I.list hq
    obtain ⟨u, hu, ru⟩ := rv.get hx
    have p := p.isList
    have hel : e < s.heap.objs.size := Heap.lt_size he
    have hil : it < s.heap.objs.size := by obtain ⟨_, q, _⟩ := hit; exact Heap.lt_size q
    have hai : a ≠ it := fun q => by
      subst q
      obtain ⟨o1, g1, c1, _⟩ := hit
      obtain ⟨o2, g2, c2, _⟩ := p
      rw [g1] at g2
      cases g2
      rw [c1] at c2
      exact absurd c2 (by decide)
    have hae : e ≠ a := fun q => by
      subst q
      obtain ⟨o2, g2, c2, _⟩ := p
      rw [he] at g2
      cases g2
      exact absurd (show Value.type "enumerate" = Value.type "list" from c2) (by decide)
    have hi : i < its.toArray.size := by
      have := (List.getElem?_eq_some_iff.mp hx).1
      rw [List.size_toArray, ← rv.length]
      exact this
    refine wpAny_pyNext_enum_itemC (i := i) (c := k₀ + (i : Int)) (Draws.list (A := X.A.in1) (show X.A.in1.handled = none from I.ok.hd hc) it a hai its.toArray) he ⟨hit, p⟩ hi hne (by simp only [List.mem_cons, List.not_mem_nil, or_false, not_or]; exact ⟨hne, hae⟩) fun x' h' tk hx' ho hst' hT hsz hk => ?_
    have ex : x' = u := by
      have h1 : its.toArray[i]? = some x' := hx'
      have h2 : its.toArray[i]? = some u := by simpa using hu
      rw [h1] at h2
      exact Option.some.inj h2
    subst ex
    refine ⟨_, rfl, wpAny_letOwnedTupleGo_enum (s := { s with heap := h', toks := tk + 1 }) ho fun h'' he' sb => ?_⟩
    have hT2 : h''.get? s.heap.objs.size = some { cls := .type "tuple", data := .seq #[.int (k₀ + (i : Int)) tk, x'] } := (sb.2 _ (Nat.ne_of_gt hel)).trans hT
    have new : ObjOk X.prog X.w (upd H s.heap.objs.size (.tup [.int (k₀ + (i : Int)), x])) h'' s.heap.objs.size (.tup [.int (k₀ + (i : Int)), x]) :=
      ⟨by show 2 ≤ sizeLine; decide, [.int (k₀ + (i : Int)) tk, x'], .cons ⟨_, rfl⟩ (.cons ru .nil), ⟨_, hT2, rfl, _, rfl⟩⟩
    have I1 : Inv X pins σ (upd H s.heap.objs.size (.tup [.int (k₀ + (i : Int)), x])) { s with heap := h'', toks := tk + 1 } :=
      I.turnedNew (ch := [e, it]) (fun b o hb q => (sb.2 b (fun z => hb (by simp [z]))).trans (hk b o (fun z => hb (by simp [z])) (fun z => hb (by simp [z])) q)) hf (Nat.le_refl _) new
    refine ⟨.ref s.heap.objs.size, _, I1, rfl, ⟨_, x, rfl, I.hok.fresh (Nat.le_refl _), rfl, fun ys hy => by rw [I.list_inj hy hq]; exact hx⟩, ⟨⟨x', ?_⟩, hst'.1.at fun o q => (sb.2 it (Ne.symm hne)).trans q, hne⟩, fun b hb => ?_⟩
    · have e1 : k₀ + ((i + 1 : Nat) : Int) = k₀ + (i : Int) + 1 := by omega
      rw [e1]; exact he'
    · have hb' : b < s.heap.objs.size := by
        have e' : b = e ∨ b = it := by simpa using hb
        rcases e' with z | z
        · rw [z]; exact hel
        · rw [z]; exact hil
      rw [upd_ne (Nat.ne_of_lt hb')]
      exact (hf b hb).1
  done := by
    intro X hP hw hK hc i pins s σ H E I hf st hg
    subst hP hw hK
    obtain ⟨⟨old, he⟩, hit, hne⟩ := st
    obtain ⟨xs, hq, hx⟩ := hg
    have ⟨its, rv, p, hz⟩ := I.list hq
    have p := p.isList
    obtain ⟨f0, f1, f2, f3, f4, f5⟩ := hf it (by simp)
    have hai : a ≠ it := fun q => by
      subst q
      obtain ⟨o1, g1, c1, _⟩ := hit
      obtain ⟨o2, g2, c2, _⟩ := p
      rw [g1] at g2
      cases g2
      rw [c1] at c2
      exact absurd c2 (by decide)
    have hl : its.toArray.size = i := by rw [List.size_toArray, ← rv.length, hx]
    exact wpAny_pyNext_enum_endD (n := its.toArray.size) (Draws.list (A := X.A.in1) (show X.A.in1.handled = none from I.ok.hd hc) it a hai its.toArray) he (by rw [hl]; exact ⟨hit, p⟩) fun h' eb => ⟨rfl, I.turned (t' := s.toks) (fun b o hb q => eb b o hb q) f0 f1 f3 f4 f5⟩
  self := fun A i s Q E st h => let ⟨⟨_, he⟩, _⟩ := st; wpAny_pyIter_enum he h
def IteT (K : PySem.W.Frag) (a : Addr) (k₀ : Int) : It :=
  ⟨fun i H => ∃ (xs : List V) (x : V), SqT K H a xs ∧ xs[i]? = some x, fun i H v H' => ∃ T x, v = .ref T ∧ H T = none ∧ H' = upd H T (.tup [.int (k₀ + (i : Int)), x]) ∧ ∀ xs, SqT K H a xs → xs[i]? = some x, fun i H => ∃ xs : List V, SqT K H a xs ∧ xs.length = i⟩
theorem turn_enumT {P : Program} {w : World} {K : PySem.W.Frag} {elts : List Expr} {kk : Nat} {tpos : Pos} (a e it : Addr) (k₀ : Int) :
    Turn P w K (.Tuple elts kk tpos) (IteT K a k₀) [e, it] e (fun i h => (∃ old, IsEnum h e it (k₀ + (i : Int)) old) ∧ h.IsTupleIter it a i ∧ e ≠ it) where
  mem := by simp
  obj := fun i h st b hb => by
    obtain ⟨⟨old, he⟩, ⟨o, ho, hc, hd⟩, _⟩ := st
    have e' : b = e ∨ b = it := by simpa using hb
    rcases e' with z | z
    · rw [z]; exact ⟨_, he, fun v q => nomatch q⟩
    · rw [z]; exact ⟨o, ho, fun v q => by rw [hd] at q; cases q⟩
  keep := fun i h h' st k => let ⟨⟨old, he⟩, hi, hne⟩ := st; ⟨⟨old, k e (by simp) _ he⟩, hi.at fun o q => k it (by simp) o q, hne⟩
  item := by
    intro X hP hw hK hc i pins s σ H E I hf st hg
    subst hP hw hK
    obtain ⟨⟨old, he⟩, hit, hne⟩ := st
    obtain ⟨xs, x, hq, hx⟩ := hg
    have ⟨its, rv, p, hz⟩ := I.tuple hq
    obtain ⟨u, hu, ru⟩ := rv.get hx
    have p := p
    have hel : e < s.heap.objs.size := Heap.lt_size he
    have hil : it < s.heap.objs.size := by obtain ⟨_, q, _⟩ := hit; exact Heap.lt_size q
    have hai : a ≠ it := fun q => by
      subst q
      obtain ⟨o1, g1, c1, _⟩ := hit
      obtain ⟨o2, g2, c2, _⟩ := p
      rw [g1] at g2
      cases g2
      rw [c1] at c2
      exact absurd c2 (by decide)
    have hae : e ≠ a := fun q => by
      subst q
      obtain ⟨o2, g2, c2, _⟩ := p
      rw [he] at g2
      cases g2
      exact absurd (show Value.type "enumerate" = Value.type "tuple" from c2) (by decide)
    have hi : i < its.toArray.size := by
      have := (List.getElem?_eq_some_iff.mp hx).1
      rw [List.size_toArray, ← rv.length]
      exact this
    refine wpAny_pyNext_enum_itemC (i := i) (c := k₀ + (i : Int)) (Draws.tuple (A := X.A.in1) (show X.A.in1.handled = none from I.ok.hd hc) it a hai its.toArray) he ⟨hit, p⟩ hi hne (by simp only [List.mem_cons, List.not_mem_nil, or_false, not_or]; exact ⟨hne, hae⟩) fun x' h' tk hx' ho hst' hT hsz hk => ?_
    have ex : x' = u := by
      have h1 : its.toArray[i]? = some x' := hx'
      have h2 : its.toArray[i]? = some u := by simpa using hu
      rw [h1] at h2
      exact Option.some.inj h2
    subst ex
    refine ⟨_, rfl, wpAny_letOwnedTupleGo_enum (s := { s with heap := h', toks := tk + 1 }) ho fun h'' he' sb => ?_⟩
    have hT2 : h''.get? s.heap.objs.size = some { cls := .type "tuple", data := .seq #[.int (k₀ + (i : Int)) tk, x'] } := (sb.2 _ (Nat.ne_of_gt hel)).trans hT
    have new : ObjOk X.prog X.w (upd H s.heap.objs.size (.tup [.int (k₀ + (i : Int)), x])) h'' s.heap.objs.size (.tup [.int (k₀ + (i : Int)), x]) :=
      ⟨by show 2 ≤ sizeLine; decide, [.int (k₀ + (i : Int)) tk, x'], .cons ⟨_, rfl⟩ (.cons ru .nil), ⟨_, hT2, rfl, _, rfl⟩⟩
    have I1 : Inv X pins σ (upd H s.heap.objs.size (.tup [.int (k₀ + (i : Int)), x])) { s with heap := h'', toks := tk + 1 } :=
      I.turnedNew (ch := [e, it]) (fun b o hb q => (sb.2 b (fun z => hb (by simp [z]))).trans (hk b o (fun z => hb (by simp [z])) (fun z => hb (by simp [z])) q)) hf (Nat.le_refl _) new
    refine ⟨.ref s.heap.objs.size, _, I1, rfl, ⟨_, x, rfl, I.hok.fresh (Nat.le_refl _), rfl, fun ys hy => by rw [I.tuple_inj hy hq]; exact hx⟩, ⟨⟨x', ?_⟩, hst'.1.at fun o q => (sb.2 it (Ne.symm hne)).trans q, hne⟩, fun b hb => ?_⟩
    · have e1 : k₀ + ((i + 1 : Nat) : Int) = k₀ + (i : Int) + 1 := by omega
      rw [e1]; exact he'
    · have hb' : b < s.heap.objs.size := by
        have e' : b = e ∨ b = it := by simpa using hb
        rcases e' with z | z
        · rw [z]; exact hel
        · rw [z]; exact hil
      rw [upd_ne (Nat.ne_of_lt hb')]
      exact (hf b hb).1
  done := by
    intro X hP hw hK hc i pins s σ H E I hf st hg
    subst hP hw hK
    obtain ⟨⟨old, he⟩, hit, hne⟩ := st
    obtain ⟨xs, hq, hx⟩ := hg
    have ⟨its, rv, p, hz⟩ := I.tuple hq
    have p := p
    obtain ⟨f0, f1, f2, f3, f4, f5⟩ := hf it (by simp)
    have hai : a ≠ it := fun q => by
      subst q
      obtain ⟨o1, g1, c1, _⟩ := hit
      obtain ⟨o2, g2, c2, _⟩ := p
      rw [g1] at g2
      cases g2
      rw [c1] at c2
      exact absurd c2 (by decide)
    have hl : its.toArray.size = i := by rw [List.size_toArray, ← rv.length, hx]
    exact wpAny_pyNext_enum_endD (n := its.toArray.size) (Draws.tuple (A := X.A.in1) (show X.A.in1.handled = none from I.ok.hd hc) it a hai its.toArray) he (by rw [hl]; exact ⟨hit, p⟩) fun h' eb => ⟨rfl, I.turned (t' := s.toks) (fun b o hb q => eb b o hb q) f0 f1 f3 f4 f5⟩
  self := fun A i s Q E st h => let ⟨⟨_, he⟩, _⟩ := st; wpAny_pyIter_enum he h
def iEnumC (K : PySem.W.Frag) (ta : TA) : TI := fun σ H R => ta σ H fun vs H1 => ∃ (a : Addr) (xs : List V) (k : Int), vs = [.ref a, .int k] ∧ -(2 ^ 63) ≤ k ∧ k < 2 ^ 63 ∧ ((SqL K H1 a xs ∧ R (IteL K a k) H1) ∨ (SqT K H1 a xs ∧ R (IteT K a k) H1))
theorem pi_enumC {X : Cx} {e e2 : Expr} {ta : TA} {p pos tpos : Pos} {elts : List Expr} {kk : Nat} (hg : Gl X "enumerate") (hm : X.mg "enumerate" = none) (ha : PA X [e, e2] ta) (hs : starEach [e, e2] X.env = (false, eval e X.env) :: starEach [e2] X.env := by rfl) (hpl : (backTo pos (starEach [e2] X.env)).any (·.1) = false := by rfl) :
    PI X (.Tuple elts kk tpos) (.Call (.Name "enumerate" p) [e, e2] [] pos) (iEnumC X.K ta) := by
  refine ⟨fun pins s σ H R I h => ?_⟩
  refine Call_ (ld_blt I hg hm boot_enumerate (PyProof.Rows.callWith_type1 (thn (ha.run pos pins s σ H _ I h) fun us s1 ⟨vs, H1, I1, r1, q1⟩ => ?_) hs hpl))
  obtain ⟨a, xs, k, ex, k0, k1, q⟩ := q1
  subst ex
  cases r1 with
  | cons r rr =>
    cases rr with
    | cons r' rr =>
    cases rr
    cases r
    obtain ⟨t, rfl⟩ := r'
    have go : ∀ {J : It} {o : Obj} {stp : Nat → Heap → Prop}, Turn X.prog X.w X.K (.Tuple elts kk tpos) J [s1.heap.objs.size + 1, s1.heap.objs.size] (s1.heap.objs.size + 1) stp → R J H1 → ∀ {Hh : Heap → Prop}, Begins (.ref a) o Hh → Hh s1.heap → (∀ h', IsEnum h' (s1.heap.objs.size + 1) s1.heap.objs.size k .none → h'.get? s1.heap.objs.size = some o → stp 0 h') →
        wpAny (model X.prog X.w) X.A (call (.type "enumerate") [.ref a, .int k t]) (fun v s' => wpAny (model X.prog X.w) X.A (pyIter v) (PIE X pins σ (.Tuple elts kk tpos) R) X.xe s') X.xe s1 := by
      intro J o stp T q Hh B hB hst
      refine enum_begins B hB k0 k1 fun h' he hit hsz hk => wpAny_pyIter_enum he ?_
      have I2 : Inv X pins σ H1 { s1 with heap := h' } := I1.kept (t' := s1.toks) hk
      refine ⟨s1.heap.objs.size + 1, [s1.heap.objs.size + 1, s1.heap.objs.size], _, _, H1, rfl, I2, T, hst h' he hit, fun b hb => ?_, q⟩
      have e' : b = s1.heap.objs.size + 1 ∨ b = s1.heap.objs.size := by simpa using hb
      have hle : s1.heap.objs.size ≤ b := by
        rcases e' with z | z
        · rw [z]; exact Nat.le_add_right _ _
        · rw [z]; exact Nat.le_refl _
      exact I1.fpOk hle (I1.hok.fresh hle)
    rcases q with ⟨hq, q⟩ | ⟨hq, q⟩
    · obtain ⟨its, rv, p', hz⟩ := I1.list hq
      refine go (turn_enumL a (s1.heap.objs.size + 1) s1.heap.objs.size k) q (begins_list a its.toArray) p'.isList fun h' he hit => ⟨⟨.none, ?_⟩, ⟨_, hit, rfl, rfl⟩, Nat.succ_ne_self _⟩
      rw [show k + ((0 : Nat) : Int) = k by simp]
      exact he
    · obtain ⟨its, rv, p', hz⟩ := I1.tuple hq
      refine go (turn_enumT a (s1.heap.objs.size + 1) s1.heap.objs.size k) q (begins_tuple a its.toArray) p' fun h' he hit => ⟨⟨.none, ?_⟩, ⟨_, hit, rfl, rfl⟩, Nat.succ_ne_self _⟩
      rw [show k + ((0 : Nat) : Int) = k by simp]
      exact he
/-! the rules -/
def rangeC (lo c : Int) (n : Nat) : List D := (List.range n).map fun k : Nat => .int (lo + (k : Int) * c)
def range3 : List D → M (List D)
  | [.int i, .int j, .int c] => if c = -1 ∧ -(2 ^ 62) ≤ i ∧ i < 2 ^ 62 ∧ -(2 ^ 62) ≤ j ∧ j < 2 ^ 62 then M.ret (rangeC i (-1) (i - j).toNat) else M.stuck
  | _ => M.stuck
def enumC : List D → M (List D)
  | [.lst ds, .int k] => if -(2 ^ 62) ≤ k ∧ k < 2 ^ 62 then M.ret (enumFrom k ds) else M.stuck
  | [.tup ds, .int k] => if -(2 ^ 62) ≤ k ∧ k < 2 ^ 62 then M.ret (enumFrom k ds) else M.stuck
  | _ => M.stuck
def zip2A : List D → M (List D)
  | [.lst ds, .lst es] => M.ret (zipD ds es)
  | [.tup ds, .tup es] => M.ret (zipD ds es)
  | _ => M.stuck
section
variable {X : Cx} {b : Bs} {W : WX} {pos : Pos}
theorem jok_rangeC {F : Hp} {lo c : Int} {n : Nat} : JOk b F (Itc lo c n) (rangeC lo c n) := by
  intro F2 H2 s2 sb
  refine ⟨fun i d e => ?_, ?_⟩
  · unfold rangeC at e
    rw [List.getElem?_map] at e
    by_cases hi : i < n
    · rw [List.getElem?_range hi] at e
      cases e
      refine ⟨hi, fun x H' y => ?_⟩
      obtain ⟨rfl, rfl⟩ := y
      exact ⟨F2, Grow.refl sb, by show Rep _ _ _ _ _; unfold Rep; rfl⟩
    · rw [List.getElem?_eq_none (by simpa using hi)] at e; cases e
  · show n ≤ (rangeC lo c n).length
    unfold rangeC
    simp
theorem di_range3 {tg a c e : Expr} {φ : M (List AV)} {p : Pos} (hm : X.mg "range" = none) (ha : PA X [a, c, e] (tAs b W φ)) (hg : Gl X "range" := by rfl) (hs : starEach [a, c, e] X.env = (false, eval a X.env) :: starEach [c, e] X.env := by rfl) (hpl : (backTo pos (starEach [c, e] X.env)).any (·.1) = false := by rfl) : PI X tg (.Call (.Name "range" p) [a, c, e] [] pos) (tI b W (mIt range3 φ)) := by
  refine weakI (pi_range3 hg hm ha hs hpl) fun σ H R ⟨F, ρ, k, h⟩ => ?_
  refine runI k h fun ds vs ρ1 F1 H1 k1 s1 q h1 => ?_
  unfold range3 at h1
  split at h1
  · rename_i i j c
    cases q with
    | cons q1 q2 =>
      cases q2 with
      | cons q2 q3 =>
        cases q3 with
        | cons q3 q4 =>
        cases q4
        cases rd_int q1
        cases rd_int q2
        cases rd_int q3
        by_cases hj : c = -1 ∧ -(2 ^ 62) ≤ i ∧ i < 2 ^ 62 ∧ -(2 ^ 62) ≤ j ∧ j < 2 ^ 62
        · rw [if_pos hj] at h1
          obtain ⟨rfl, hj⟩ := hj
          exact ⟨i, j, -1, _, rfl, RgC.neg hj.1 hj.2.1 hj.2.2.1 hj.2.2.2, h1 F1 H1 k1 (Same.refl _) _ jok_rangeC⟩
        · rw [if_neg hj] at h1; exact h1.elim
  · exact h1.elim
theorem di_enumC {e e2 : Expr} {elts : List Expr} {kk : Nat} {tpos : Pos} {φ : M (List AV)} {p : Pos} (fit : Fit X b) (hm : X.mg "enumerate" = none) (ha : PA X [e, e2] (tAs b W φ)) (hg : Gl X "enumerate" := by rfl) (hs : starEach [e, e2] X.env = (false, eval e X.env) :: starEach [e2] X.env := by rfl) (hpl : (backTo pos (starEach [e2] X.env)).any (·.1) = false := by rfl) :
    PI X (.Tuple elts kk tpos) (.Call (.Name "enumerate" p) [e, e2] [] pos) (tI b W (mItf enumC φ)) := by
  refine weakI (pi_enumC hg hm ha hs hpl) fun σ H R ⟨F, ρ, k, h⟩ => ?_
  refine runIf k h fun ds vs ρ1 F1 H1 k1 q h1 => ?_
  unfold enumC at h1
  split at h1
  · rename_i ds c
    unfold RepL at q
    obtain ⟨v, s, rfl, q1, q2⟩ := q
    unfold RepL at q2
    obtain ⟨v2, s, rfl, q2, q3⟩ := q2
    unfold RepL at q3
    subst q3
    unfold Rep at q1 q2
    subst q2
    obtain ⟨a, xs, rfl, qa, l⟩ := q1
    by_cases hk : -(2 ^ 62) ≤ c ∧ c < 2 ^ 62
    · rw [if_pos hk] at h1
      refine ⟨a, xs, c, rfl, by omega, by omega, .inl ⟨SqL.of (k1.sub.lst qa), h1 F1 H1 k1 (Same.refl _) _ ?_⟩⟩
      intro F3 H3 s3 sb
      have z : H3 a = some (.lst xs) := sb.lst (s3 _ _ qa)
      refine ⟨fun i d e => ?_, ⟨xs, SqL.of z, by rw [enumFrom_len, l.len]⟩⟩
      obtain ⟨c', ec, rfl⟩ := enumFrom_get e
      obtain ⟨v, ev, rv⟩ := l.get ec
      refine ⟨⟨xs, v, SqL.of z, ev⟩, fun x H' y => ?_⟩
      obtain ⟨T, u, rfl, hT, rfl, y⟩ := y
      have := y xs (SqL.of z)
      rw [ev] at this
      cases this
      have g := Grow.frozen (o := .tup [.int (c + (i : Int)), v]) sb hT
      refine ⟨_, g, rep_tup2 upd_same ?_ (rv.mono (s3.trans g.ext))⟩
      unfold Rep
      rfl
    · rw [if_neg hk] at h1; exact h1.elim
  · rename_i ds c
    unfold RepL at q
    obtain ⟨v, s, rfl, q1, q2⟩ := q
    unfold RepL at q2
    obtain ⟨v2, s, rfl, q2, q3⟩ := q2
    unfold RepL at q3
    subst q3
    unfold Rep at q1 q2
    subst q2
    obtain ⟨a, xs, rfl, qa, l⟩ := q1
    rw [fit.K] at qa
    by_cases hk : -(2 ^ 62) ≤ c ∧ c < 2 ^ 62
    · rw [if_pos hk] at h1
      refine ⟨a, xs, c, rfl, by omega, by omega, .inr ⟨k1.sub.sqT qa, h1 F1 H1 k1 (Same.refl _) _ ?_⟩⟩
      intro F3 H3 s3 sb
      have z : SqT X.K H3 a xs := sb.sqT (SqT.ext qa s3)
      refine ⟨fun i d e => ?_, ⟨xs, z, by rw [enumFrom_len, l.len]⟩⟩
      obtain ⟨c', ec, rfl⟩ := enumFrom_get e
      obtain ⟨v, ev, rv⟩ := l.get ec
      refine ⟨⟨xs, v, z, ev⟩, fun x H' y => ?_⟩
      obtain ⟨T, u, rfl, hT, rfl, y⟩ := y
      have := y xs z
      rw [ev] at this
      cases this
      have g := Grow.frozen (o := .tup [.int (c + (i : Int)), v]) sb hT
      refine ⟨_, g, rep_tup2 upd_same ?_ (rv.mono (s3.trans g.ext))⟩
      unfold Rep
      rfl
    · rw [if_neg hk] at h1; exact h1.elim
  · exact h1.elim
theorem di_zipA {e e2 : Expr} {elts : List Expr} {kk : Nat} {tpos : Pos} {φ : M (List AV)} {p : Pos} (fit : Fit X b) (hm : X.mg "zip" = none) (ha : PA X [e, e2] (tAs b W φ)) (hg : Gl X "zip" := by rfl) (hs : starEach [e, e2] X.env = (false, eval e X.env) :: starEach [e2] X.env := by rfl) (hpl : (backTo pos (starEach [e2] X.env)).any (·.1) = false := by rfl) :
    PI X (.Tuple elts kk tpos) (.Call (.Name "zip" p) [e, e2] [] pos) (tI b W (mItf zip2A φ)) := by
  refine weakI (RZ.pi_zipA hg hm ha hs hpl) fun σ H R ⟨F, ρ, k, h⟩ => ?_
  refine runIf k h fun ds vs ρ1 F1 H1 k1 q h1 => ?_
  unfold zip2A at h1
  split at h1
  · rename_i ds es
    unfold RepL at q
    obtain ⟨v, s, rfl, q1, q2⟩ := q
    unfold RepL at q2
    obtain ⟨v2, s, rfl, q2, q3⟩ := q2
    unfold RepL at q3
    subst q3
    unfold Rep at q1 q2
    obtain ⟨a, xs, rfl, qa, l⟩ := q1
    obtain ⟨c, ys, rfl, qc, m⟩ := q2
    refine ⟨a, c, xs, ys, rfl, .inl ⟨SqL.of (k1.sub.lst qa), SqL.of (k1.sub.lst qc), h1 F1 H1 k1 (Same.refl _) _ ?_⟩⟩
    intro F3 H3 s3 sb
    have z : H3 a = some (.lst xs) := sb.lst (s3 _ _ qa)
    have z2 : H3 c = some (.lst ys) := sb.lst (s3 _ _ qc)
    refine ⟨fun i d e => ?_, ⟨xs, ys, SqL.of z, SqL.of z2, by rw [← l.len, ← m.len]; exact zipD_len⟩⟩
    obtain ⟨d1, d2, e1, e2, rfl⟩ := zipD_get e
    obtain ⟨v, ev, rv⟩ := l.get e1
    obtain ⟨u, eu, ru⟩ := m.get e2
    refine ⟨⟨xs, ys, v, u, SqL.of z, SqL.of z2, ev, eu⟩, fun x H' y => ?_⟩
    obtain ⟨T, v', u', rfl, hT, rfl, y1, y2⟩ := y
    have h1 := y1 xs (SqL.of z)
    rw [ev] at h1; cases h1
    have h2 := y2 ys (SqL.of z2)
    rw [eu] at h2; cases h2
    have g := Grow.frozen (o := .tup [v, u]) sb hT
    exact ⟨_, g, rep_tup2 upd_same (rv.mono (s3.trans g.ext)) (ru.mono (s3.trans g.ext))⟩
  · rename_i ds es
    unfold RepL at q
    obtain ⟨v, s, rfl, q1, q2⟩ := q
    unfold RepL at q2
    obtain ⟨v2, s, rfl, q2, q3⟩ := q2
    unfold RepL at q3
    subst q3
    unfold Rep at q1 q2
    obtain ⟨a, xs, rfl, qa, l⟩ := q1
    obtain ⟨c, ys, rfl, qc, m⟩ := q2
    rw [fit.K] at qa qc
    refine ⟨a, c, xs, ys, rfl, .inr ⟨k1.sub.sqT qa, k1.sub.sqT qc, h1 F1 H1 k1 (Same.refl _) _ ?_⟩⟩
    intro F3 H3 s3 sb
    have z : SqT X.K H3 a xs := sb.sqT (SqT.ext qa s3)
    have z2 : SqT X.K H3 c ys := sb.sqT (SqT.ext qc s3)
    refine ⟨fun i d e => ?_, ⟨xs, ys, z, z2, by rw [← l.len, ← m.len]; exact zipD_len⟩⟩
    obtain ⟨d1, d2, e1, e2, rfl⟩ := zipD_get e
    obtain ⟨v, ev, rv⟩ := l.get e1
    obtain ⟨u, eu, ru⟩ := m.get e2
    refine ⟨⟨xs, ys, v, u, z, z2, ev, eu⟩, fun x H' y => ?_⟩
    obtain ⟨T, v', u', rfl, hT, rfl, y1, y2⟩ := y
    have h1 := y1 xs z
    rw [ev] at h1; cases h1
    have h2 := y2 ys z2
    rw [eu] at h2; cases h2
    have g := Grow.frozen (o := .tup [v, u]) sb hT
    exact ⟨_, g, rep_tup2 upd_same (rv.mono (s3.trans g.ext)) (ru.mono (s3.trans g.ext))⟩
  · exact h1.elim
end
end DL

namespace DL
open PySem PySem.Spec PyProof.Rows L2

/-! ### DL28: dict comprehensions, d.items() in comprehensions -/
def loopD (own : List Nat) (t : Tg) (τ : M Bool) (φ ψ : M AV) : List D → List (D × D) → M (List (D × D))
  | [], acc => M.ret acc
  | d :: ds, acc => (bindT t d).bnd fun _ => τ.bnd fun c => if c then φ.bnd fun a => (frz a).bnd fun x => ψ.bnd fun a2 => (frz a2).bnd fun y => if acc.length < sizeLine ∧ (keyOf x).isSome = true then (wipeM own).bnd fun _ => loopD own t τ φ ψ ds (putD acc x y) else M.stuck
    else (wipeM own).bnd fun _ => loopD own t τ φ ψ ds acc
def mDc (ιs : M (List D)) (own : List Nat) (t : Tg) (τ : M Bool) (φ ψ : M AV) : M AV := ιs.bnd fun ds => fun ρ0 => match wipeE own ρ0 with
  | some ρ1 => match loopD own t τ φ ψ ds [] ρ1 with
    | .ok acc ρ2 => .ok (.ow (.dct acc)) (restE own ρ0 ρ2)
    | _ => .no
  | none => .no
def dItems (i : Nat) : M (List D) := (frz (.sl i)).bnd fun d => match d with
  | .dct kvs => M.ret (kvs.map fun p => .tup [p.1, p.2])
  | _ => M.stuck
def JOk2 (b : Bs) (F : Hp) (σ : L2.St) (J : It) (ds : List D) : Prop := ∀ (P : List (Addr × HO)) ρ2 F2 H2 , Ok { b with P := P } ρ2 F2 H2 σ → Same F F2 →
  (∀ (i : Nat) (d : D), ds[i]? = some d → J.go i H2 ∧ ∀ x H', J.yld i H2 x H' → ∃ F3, Grow F2 H2 F3 H' ∧ Rep b.K b.mg F3 d x) ∧ J.stop ds.length H2
theorem JOk.two {b : Bs} {F : Hp} {σ : L2.St} {J : It} {ds : List D} (h : JOk b F J ds) : JOk2 b F σ J ds := fun P ρ2 F2 H2 k s => h F2 H2 s k.sub
section
variable {X : Cx} {b : Bs} {W : WX} {pos : Pos}
theorem dc_turns {K : PySem.W.Frag} {mg : Str → Option Value} {τ : M Bool} {φ ψ : M AV} {t : Tg} {ow : List Nat} {σ : L2.St} {F1 H1 : Hp} {ρ0 ρ1 ρE : DL.Env} {ds : List D} {accE : List (D × D)} {J : It} {Q : VK} (eK : b.K = K) (eM : b.mg = mg) (hsl : ∀ i ∈ t.slots, i ∈ ow)
    (k1 : Ok b ρ0 F1 H1 σ) (hJ : JOk2 b F1 (wipe σ ow) J ds) (ew : wipeE ow ρ0 = some ρ1) (el : loopD ow t τ φ ψ ds [] ρ1 = .ok accE ρE)
    (h1 : ∀ F2 H2, Ok b (restE ow ρ0 ρE) F2 H2 σ → Same F1 F2 → ∀ v, RepA b F2 H2 σ (restE ow ρ0 ρE) (.ow (.dct accE)) v → Q v H2) : ∀ D, H1 D = none → ∃ W : Nat → Nat → Hp → Prop, (∃ m, W 0 m (upd H1 D (.dK []))) ∧ ∀ i m H, W i m H →
  (J.stop i H ∧ Q (.ref D) H) ∨ (J.go i H ∧ ∃ Nx : Hp → Prop, (∀ H', Nx H' → ∃ m', m' < m ∧ W (i + 1) m' H') ∧ ∀ x H', J.yld i H x H' → uG K mg t x (wipe σ ow) H' fun σ2 H2 => wipe σ2 ow = wipe σ ow ∧ uT K mg τ σ2 H2 fun b H3 =>
    if b = true then uE K mg φ σ2 H3 fun y H4 => uE K mg ψ σ2 H4 fun z H5 => ∃ kvs k, y = kV k ∧ H5 D = some (.dK kvs) ∧ kvs.length < sizeLine ∧ Nx (upd H5 D (.dK (putK kvs k z))) else Nx H3) := by
  subst eK eM
  intro D hD
  have hD0 : b.H_0 D = none := k1.fresh_0 hD
  have hPD : ∀ q ∈ b.P, q.1 ≠ D := k1.prot_new hD
  refine ⟨fun i m H => m = ds.length - i ∧ i ≤ ds.length ∧ ∃ F2 ρ2 acc xs, Ok { b with P := (D, .dK xs) :: b.P } ρ2 F2 H (wipe σ ow) ∧ Same F1 F2 ∧ RepK b.K b.mg F2 acc xs ∧ loopD ow t τ φ ψ (ds.drop i) acc ρ2 = .ok accE ρE,
    ⟨ds.length, rfl, Nat.zero_le _, F1, ρ1, [], [], (k1.wiped ew).keepNew hD, Same.refl _, by unfold RepK; rfl, el⟩, ?_⟩
  rintro i m H2 ⟨rfl, hi, F2, ρ2, acc, xs, k2, s2, ra, e2⟩
  obtain ⟨go, stop⟩ := hJ _ ρ2 F2 H2 k2 s2
  by_cases hlt : i < ds.length
  · obtain ⟨g1, g2⟩ := go i ds[i] (List.getElem?_eq_getElem hlt)
    have e : ds.drop i = ds[i] :: ds.drop (i + 1) := List.drop_eq_getElem_cons hlt
    rw [e] at e2
    unfold loopD at e2
    obtain ⟨u, ρ3, eb, e2⟩ := bnd_inv e2
    obtain ⟨c, ρ4, et, e2⟩ := bnd_inv e2
    refine .inr ⟨g1, fun H' => ∃ F3 ρ3 acc' xs', Ok { b with P := (D, .dK xs') :: b.P } ρ3 F3 H' (wipe σ ow) ∧ Same F1 F3 ∧ RepK b.K b.mg F3 acc' xs' ∧ loopD ow t τ φ ψ (ds.drop (i + 1)) acc' ρ3 = .ok accE ρE,
      fun H' z => ⟨ds.length - (i + 1), by omega, rfl, hlt, z⟩, fun x H' y => ?_⟩
    obtain ⟨F3, gr, rx⟩ := g2 x H' y
    refine ⟨{ b with P := (D, .dK xs) :: b.P }, rfl, rfl, F3, ρ2, ds[i], k2.grow gr, rx, ?_⟩
    rw [eb]
    intro σ2 k3 o3
    have hw : wipe σ2 ow = wipe σ ow := (out_wipe o3 hsl).trans wipe_wipe
    refine ⟨hw, { b with P := (D, .dK xs) :: b.P }, rfl, rfl, F3, ρ3, k3, ?_⟩
    rw [et]
    intro F4 H4 k4 s4
    cases c with
    | false =>
      refine iteF ?_
      rw [if_neg Bool.false_ne_true] at e2
      obtain ⟨_, ρ5, e4, e2⟩ := bnd_inv e2
      have k5 := k4.wiped (wipeM_inv e4)
      rw [hw] at k5
      exact ⟨F4, ρ5, acc, xs, k5, s2.trans (gr.ext.trans s4), ra.mono (gr.ext.trans s4), e2⟩
    | true =>
      rw [if_pos rfl] at e2
      obtain ⟨av, ρ5, ep, e2⟩ := bnd_inv e2
      obtain ⟨d, ρ6, ef, e2⟩ := bnd_inv e2
      obtain ⟨av2, ρ7, ep2, e2⟩ := bnd_inv e2
      obtain ⟨d2, ρ8, ef2, e2⟩ := bnd_inv e2
      refine iteT ⟨{ b with P := (D, .dK xs) :: b.P }, rfl, rfl, F4, ρ4, k4, ?_⟩
      rw [ep]
      intro F5 H5 k5 s5 y ry
      obtain ⟨F6, k6, s6, r6⟩ := k5.froze ry ef
      refine ⟨{ b with P := (D, .dK xs) :: b.P }, rfl, rfl, F6, ρ6, k6, ?_⟩
      rw [ep2]
      intro F7 H7 k7 s7 z rz
      obtain ⟨F8, k8, s8, r8⟩ := k7.froze rz ef2
      by_cases hz : acc.length < sizeLine ∧ (keyOf d).isSome = true
      · rw [if_pos hz] at e2
        obtain ⟨_, ρ9, e4, e2⟩ := bnd_inv e2
        obtain ⟨kk, ek⟩ := Option.isSome_iff_exists.mp hz.2
        have pD := (k8.prot (D, .dK xs) List.mem_cons_self).1
        have st := gr.ext.trans (s4.trans (s5.trans (s6.trans (s7.trans s8))))
        have ey : y = kV kk := keyOf_rd (H := H7) (.inl (Rep.mono (s7.trans s8) r6)) ek
        refine ⟨xs, kk, ey, pD, by rw [← ra.len]; exact hz.1, F8, ρ9, putD acc d d2, putK xs kk z, ?_, s2.trans st, RepK.put ek r8 (ra.mono st), e2⟩
        have k9 := k8.wiped (wipeM_inv e4)
        rw [hw] at k9
        exact k9.keptSet hD0 hPD
      · rw [if_neg hz] at e2; cases e2
  · have hi' : i = ds.length := by omega
    subst hi'
    rw [List.drop_length] at e2
    unfold loopD M.ret at e2
    injection e2 with e3 e4
    subst e3 e4
    refine .inl ⟨stop, ?_⟩
    obtain ⟨q1, q2, q3⟩ := k2.prot (D, .dK xs) List.mem_cons_self
    have k3 := k2.unkept
    have kk : Ok b (restE ow ρ0 ρ2) F2 H2 σ := by
      refine k3.re (by rw [restE_len, k3.len, wipe_length]) (fun j s ej => ?_) fun p hp => ?_
      · rcases restE_get ej with ⟨m, rfl | ⟨d, rfl, e0⟩⟩ | ⟨m, z⟩
        · exact .inr (.inl rfl)
        · obtain ⟨v, ev, r⟩ := k1.slot j _ e0
          exact .inr (.inr ⟨d, v, rfl, getD_ref ev, r.mono s2⟩)
        · exact .inl ⟨z, (wipe_get m).symm⟩
      · obtain ⟨_, d, e2⟩ := k3.bor p hp
        have hn : p.1 ∉ ow := fun hm => by
          obtain ⟨e1, _⟩ := k3.bor p hp
          rw [wipe_in hm] at e1
          split at e1 <;> cases e1
        exact ⟨restE_out hn, (wipe_get hn).symm⟩
    refine h1 F2 H2 kk s2 _ ⟨D, rfl, q2, hD0, ⟨xs, q1, ra⟩, fun j s ej hs w => ?_, hPD⟩
    rcases restE_get ej with ⟨m, rfl | ⟨d, rfl, e0⟩⟩ | ⟨m, z⟩
    · cases hs
    · cases hs
    · exact q3 j s z hs (by rw [wipe_get m]; exact w)
theorem de_dc {kx vx tg iter : Expr} {ifs : List Expr} {scope : Scope} {ιs : M (List D)} {τ : M Bool} {φ ψ : M AV} {t : Tg} (own : List (Str × Nat)) (fit : Fit X b) (hN : X.N.Nodup) (hi : PI X tg iter (tI b W ιs)) (ok : BlkOk X.N X.env.scope scope own) (hsl : ∀ i ∈ t.slots, i ∈ own.map (·.2))
    (hg : ∀ (s : Shared) (H : Hp) (C : Addr) (cl : List (Str × Addr)) (fp : List Addr) (b : Bs), Fit (X.blk s H scope (compEnvC scope cl C X.env) fp) b → PG (X.blk s H scope (compEnvC scope cl C X.env) fp) tg (tGd b t))
    (ht : ∀ (s : Shared) (H : Hp) (C : Addr) (cl : List (Str × Addr)) (fp : List Addr), PTd (X.blk s H scope (compEnvC scope cl C X.env) fp) ifs τ)
    (hk : ∀ (s : Shared) (H : Hp) (C : Addr) (cl : List (Str × Addr)) (fp : List Addr) (b : Bs), Fit (X.blk s H scope (compEnvC scope cl C X.env) fp) b → PE (X.blk s H scope (compEnvC scope cl C X.env) fp) kx (tE b W0 φ))
    (he : ∀ (s : Shared) (H : Hp) (C : Addr) (cl : List (Str × Addr)) (fp : List Addr) (b : Bs), Fit (X.blk s H scope (compEnvC scope cl C X.env) fp) b → PE (X.blk s H scope (compEnvC scope cl C X.env) fp) vx (tE b W0 ψ)) (hc : X.calm = true := by rfl) (hs : ∀ x, foldedSetIterable iter X.env x = pure x := by intro _; rfl) :
      PE X (.DictComp kx vx [⟨tg, iter, ifs, 0⟩] scope pos) (tE b W (mDc ιs (own.map (·.2)) t τ φ ψ)) := by
  refine weakE (pe_dc (wi := tI b W ιs) (g := uG X.K X.mg t) (tt := uT X.K X.mg τ) (tk := uE X.K X.mg φ) (tv := uE X.K X.mg ψ) hc hN hi ok (fun s H C cl fp => pg_u (hg s H C cl fp)) (fun s H C cl fp => (ht s H C cl fp).run) (fun s H C cl fp => pe_u (hk s H C cl fp)) (fun s H C cl fp => pe_u (he s H C cl fp)) hs) fun σ H Q ⟨F, ρ, k, h⟩ => ?_
  refine ⟨F, ρ, k, h.bnd.imp fun ds ρ0 F1 H1 k1 s1 ⟨_, h1⟩ J hJ => ?_⟩
  cases ew : wipeE (own.map (·.2)) ρ0 with
  | none => simp only [ew] at h1; exact h1.elim
  | some ρ1 =>
    simp only [ew] at h1
    cases el : loopD (own.map (·.2)) t τ φ ψ ds [] ρ1 with
    | no => simp only [el] at h1; exact h1.elim
    | ex x ρ' => simp only [el] at h1; exact h1.elim
    | ok accE ρE =>
      simp only [el] at h1
      exact dc_turns fit.K fit.mg hsl k1 hJ.two ew el fun F2 H2 kk s2 v r => h1 F2 H2 kk s2 v r
end
/-! the items of a dict that a name holds: it is locked meanwhile -/
def lockB (b : Bs) (d : Addr) (u : HO) (od : Obj) : Bs := { b with H_0 := upd b.H_0 d (.frz od u), F_0 := upd b.F_0 d u, L := b.L.filter fun a => decide (a ≠ d) }
section
variable {b : Bs} {ρ ρ0 : DL.Env} {F F0 H H0 H' : Hp} {σ σ0 : L2.St} {d : Addr} {hk : List (Key × V)} {od : Obj}
theorem Ok.lock (k : Ok b ρ F H σ) (hF : F d = some (.dK hk)) (h1 : H' d = some (.frz od (.dK hk))) (h2 : ∀ a, a ≠ d → H' a = H a) : Ok (lockB b d (.dK hk) od) ρ F H' σ := by
  have ne : ∀ a, F a = none → a ≠ d := fun a e q => by rw [q, hF] at e; cases e
  have own : ∀ {a : Addr} {x : D}, a ≠ d → OwnAt b.K b.mg F H a x → OwnAt b.K b.mg F H' a x := fun hne oa => oa.mono (Same.refl _) fun o q => by rw [h2 _ hne]; exact q
  refine ⟨fun a o e => ?_, fun a o e hb => ?_, fun a o e => ?_, fun a o e => ?_, k.len, fun i s e => ?_, k.sep, k.bor, fun p hp => ?_⟩
  · by_cases ha : a = d
    · subst ha
      rw [hF] at e
      cases e
      exact .inr ⟨od, hk, rfl, h1⟩
    · rw [h2 a ha]
      exact k.sub a o e
  · have e : upd b.H_0 d (.frz od (.dK hk)) a = some o := e
    by_cases ha : a = d
    · subst ha
      rw [upd_same] at e
      cases e
      exact .inl h1
    · rw [upd_ne ha] at e
      rw [h2 a ha]
      rcases k.old a o e hb with z | ⟨m, z⟩
      · exact .inl z
      · exact .inr ⟨by simp only [lockB, List.mem_filter]; exact ⟨m, decide_eq_true ha⟩, z⟩
  · have e : upd b.F_0 d (.dK hk) a = some o := e
    by_cases ha : a = d
    · subst ha
      rw [upd_same] at e
      cases e
      exact hF
    · rw [upd_ne ha] at e
      exact k.ext a o e
  · show upd b.F_0 d (.dK hk) a = some o ∨ upd b.H_0 d (.frz od (.dK hk)) a = none
    by_cases ha : a = d
    · subst ha
      rw [hF] at e
      cases e
      exact .inl upd_same
    · rw [upd_ne ha, upd_ne ha]
      exact k.new a o e
  · have z := k.slot i s e
    cases s with
    | xn x => exact z
    | un => trivial
    | fz x => exact z
    | ow x =>
      obtain ⟨a, ea, n, n0, oa⟩ := z
      exact ⟨a, ea, n, (upd_ne (ne a n)).trans n0, own (ne a n) oa⟩
    | bo x =>
      obtain ⟨a, ea, n, n0, oa⟩ := z
      exact ⟨a, ea, n, n0, own (ne a n) oa⟩
  · obtain ⟨p1, p2, p3⟩ := k.prot p hp
    exact ⟨by rw [h2 _ (ne _ p2)]; exact p1, p2, p3⟩
theorem Ok.notB (k : Ok b ρ F H σ) (hF : F d = some (.dK hk)) : d ∉ b.B.map (·.2) := fun hm => by
  obtain ⟨p, hp, rfl⟩ := List.mem_map.mp hm
  obtain ⟨e1, x, e2⟩ := k.bor p hp
  obtain ⟨a, ea, n, _⟩ := k.slot _ _ e2
  rw [e1] at ea
  cases ea
  rw [hF] at n
  cases n
theorem Ok.isLocked {P : List (Addr × HO)} (hB : d ∉ b.B.map (·.2)) (k : Ok { lockB b d (.dK hk) od with P := P } ρ F H σ) : H d = some (.frz od (.dK hk)) := by
  rcases k.old d _ upd_same hB with z | ⟨m, _⟩
  · exact z
  · exact absurd (List.mem_filter.mp m).2 (by simp)
theorem Ok.unlock (k0 : Ok b ρ0 F0 H0 σ0) (hF : F0 d = some (.dK hk)) (s : Same F0 F) (k : Ok (lockB b d (.dK hk) od) ρ F H σ) (h1 : H' d = H0 d) (h2 : ∀ a, a ≠ d → H' a = H a) : Ok b ρ F H' σ := by
  have hF2 := s d _ hF
  have ne : ∀ a, F a = none → a ≠ d := fun a e q => by rw [q, hF2] at e; cases e
  have own : ∀ {a : Addr} {x : D}, a ≠ d → OwnAt b.K b.mg F H a x → OwnAt b.K b.mg F H' a x := fun hne oa => oa.mono (Same.refl _) fun o q => by rw [h2 _ hne]; exact q
  refine ⟨fun a o e => ?_, fun a o e hb => ?_, fun a o e => ?_, fun a o e => ?_, k.len, fun i s e => ?_, k.sep, k.bor, fun p hp => ?_⟩
  · by_cases ha : a = d
    · subst ha
      rw [hF2] at e
      cases e
      rw [h1]
      exact k0.sub _ _ hF
    · rw [h2 a ha]
      exact k.sub a o e
  · by_cases ha : a = d
    · subst ha
      rw [h1]
      exact k0.old _ o e hb
    · rw [h2 a ha]
      rcases k.old a o (by show upd b.H_0 d _ a = some o; rw [upd_ne ha]; exact e) hb with z | ⟨m, z⟩
      · exact .inl z
      · exact .inr ⟨(List.mem_filter.mp m).1, z⟩
  · by_cases ha : a = d
    · subst ha
      have := k0.ext _ o e
      rw [hF] at this
      cases this
      exact hF2
    · exact k.ext a o (by show upd b.F_0 d _ a = some o; rw [upd_ne ha]; exact e)
  · by_cases ha : a = d
    · subst ha
      rw [hF2] at e
      cases e
      exact k0.new _ _ hF
    · have z : upd b.F_0 d (.dK hk) a = some o ∨ upd b.H_0 d (.frz od (.dK hk)) a = none := k.new a o e
      rw [upd_ne ha, upd_ne ha] at z
      exact z
  · have z := k.slot i s e
    cases s with
    | xn x => exact z
    | un => trivial
    | fz x => exact z
    | ow x =>
      obtain ⟨a, ea, n, n0, oa⟩ := z
      have n0 : upd b.H_0 d (.frz od (.dK hk)) a = none := n0
      rw [upd_ne (ne a n)] at n0
      exact ⟨a, ea, n, n0, own (ne a n) oa⟩
    | bo x =>
      obtain ⟨a, ea, n, n0, oa⟩ := z
      exact ⟨a, ea, n, n0, own (ne a n) oa⟩
  · obtain ⟨p1, p2, p3⟩ := k.prot p hp
    exact ⟨by rw [h2 _ (ne _ p2)]; exact p1, p2, p3⟩
theorem RepA.unlock {av : AV} {v : V} (s : F d = some (.dK hk)) (r : RepA (lockB b d (.dK hk) od) F H σ ρ av v) (h2 : ∀ a, a ≠ d → H' a = H a) : RepA b F H' σ ρ av v := by
  cases av with
  | fz x => exact r
  | sl i => exact r
  | ow x =>
    obtain ⟨a, e, n, n0, oa, ap⟩ := r
    have ha : a ≠ d := fun q => by rw [q, s] at n; cases n
    have n0 : upd b.H_0 d (.frz od (.dK hk)) a = none := n0
    rw [upd_ne ha] at n0
    exact ⟨a, e, n, n0, oa.mono (Same.refl _) (fun o q => by rw [h2 _ ha]; exact q), ap⟩
end
section
variable {X : Cx} {b : Bs} {W : WX} {pos : Pos}
theorem jok_items {d : Addr} {od : Obj} {kvs : List (D × D)} {hk : List (Key × V)} {F : Hp} {σ : L2.St} (hB : d ∉ b.B.map (·.2)) (r : RepK b.K b.mg F kvs hk) : JOk2 (lockB b d (.dK hk) od) F σ (Iti d od hk) (kvs.map fun p => .tup [p.1, p.2]) := by
  intro P ρ2 F2 H2 k s
  have hH := Ok.isLocked hB k
  refine ⟨fun i e he => ?_, ⟨hH, by rw [List.length_map, r.len]; exact Nat.le_refl _⟩⟩
  rw [List.getElem?_map] at he
  cases e0 : kvs[i]? with
  | none => rw [e0] at he; cases he
  | some p =>
    rw [e0] at he
    cases he
    have get : ∀ {kvs : List (D × D)} {hk : List (Key × V)} {i : Nat} {p : D × D}, RepK b.K b.mg F kvs hk → kvs[i]? = some p → ∃ kk v, hk[i]? = some (kk, v) ∧ keyOf p.1 = some kk ∧ Rep b.K b.mg F p.2 v := by
      intro kvs
      induction kvs with
      | nil => intro hk i p _ e; cases e
      | cons q kvs ih =>
        intro hk i p r e
        unfold RepK at r
        obtain ⟨kk, v, l, rfl, k1, r1, r2⟩ := r
        cases i with
        | zero => cases e; exact ⟨kk, v, rfl, dkey_iff.mp k1, r1⟩
        | succ i =>
          obtain ⟨kk', v', z⟩ := ih (hk := l) (i := i) (p := p) r2 (by simpa using e)
          exact ⟨kk', v', by simpa using z⟩
    obtain ⟨kk, v, ehk, ek, rv⟩ := get r e0
    refine ⟨⟨hH, (List.getElem?_eq_some_iff.mp ehk).1⟩, fun x H' y => ?_⟩
    obtain ⟨T, kk', v', ehk', rfl, hT, rfl⟩ := y
    rw [ehk] at ehk'
    cases ehk'
    have g := Grow.frozen (o := .tup [kV kk, v]) k.sub hT
    refine ⟨_, g, rep_tup2 upd_same ?_ (rv.mono (s.trans g.ext))⟩
    obtain ⟨pk, pv⟩ := p
    cases pk with
    | int j => cases ek; show Rep _ _ _ _ _; unfold Rep; rfl
    | str j => cases ek; show Rep _ _ _ _ _; unfold Rep; rfl
    | _ => cases ek
theorem de_dcI {kx vx : Expr} {elts : List Expr} {kk : Nat} {tpos npos apos cpos : Pos} {x : Str} {j : Nat} {ifs : List Expr} {scope : Scope} {τ : M Bool} {φ ψ : M AV} {t : Tg} (own : List (Str × Nat)) (fit : Fit X b) (hN : X.N.Nodup) (hv : PE X (.Name x npos) (tVar j)) (ok : BlkOk X.N X.env.scope scope own) (hsl : ∀ i ∈ t.slots, i ∈ own.map (·.2))
    (hg : ∀ (s : Shared) (H : Hp) (C : Addr) (cl : List (Str × Addr)) (fp : List Addr) (b : Bs), Fit (X.blk s H scope (compEnvC scope cl C X.env) fp) b → PG (X.blk s H scope (compEnvC scope cl C X.env) fp) (.Tuple elts kk tpos) (tGd b t))
    (ht : ∀ (s : Shared) (H : Hp) (C : Addr) (cl : List (Str × Addr)) (fp : List Addr), PTd (X.blk s H scope (compEnvC scope cl C X.env) fp) ifs τ)
    (hk : ∀ (s : Shared) (H : Hp) (C : Addr) (cl : List (Str × Addr)) (fp : List Addr) (b : Bs), Fit (X.blk s H scope (compEnvC scope cl C X.env) fp) b → PE (X.blk s H scope (compEnvC scope cl C X.env) fp) kx (tE b W0 φ))
    (he : ∀ (s : Shared) (H : Hp) (C : Addr) (cl : List (Str × Addr)) (fp : List Addr) (b : Bs), Fit (X.blk s H scope (compEnvC scope cl C X.env) fp) b → PE (X.blk s H scope (compEnvC scope cl C X.env) fp) vx (tE b W0 ψ)) (hc : X.calm = true := by rfl)
    (hbase : attributeBase (.Name x npos) "items" X.env (eval (.Name x npos) X.env) = eval (.Name x npos) X.env := by rfl) (hline : (apos.endLine == cpos.line) = true := by rfl)
    (hs : ∀ x', foldedSetIterable (.Call (.Attribute (.Name x npos) "items" apos) [] [] cpos) X.env x' = pure x' := by intro _; rfl) :
      PE X (.DictComp kx vx [⟨.Tuple elts kk tpos, .Call (.Attribute (.Name x npos) "items" apos) [] [] cpos, ifs, 0⟩] scope pos) (tE b W (mDc (dItems j) (own.map (·.2)) t τ φ ψ)) := by
  have base := pe_dc (kx := kx) (vx := vx) (pos := pos) (wi := iItems (tVar j)) (g := uG X.K X.mg t) (tt := uT X.K X.mg τ) (tk := uE X.K X.mg φ) (tv := uE X.K X.mg ψ) hc hN (pi_items (elts := elts) (kk := kk) (tpos := tpos) (apos := apos) (cpos := cpos) hv hbase hline) ok (fun s H C cl fp => pg_u (hg s H C cl fp)) (fun s H C cl fp => (ht s H C cl fp).run) (fun s H C cl fp => pe_u (hk s H C cl fp)) (fun s H C cl fp => pe_u (he s H C cl fp)) hs
  refine supE fun σ H Q ⟨F, ρ, k, h⟩ => ?_
  have h : After b W σ F (((dItems j).bnd fun ds => fun ρ0 => match wipeE (own.map (·.2)) ρ0 with
    | some ρ1 => match loopD (own.map (·.2)) t τ φ ψ ds [] ρ1 with
      | .ok acc ρ2 => .ok (AV.ow (.dct acc)) (restE (own.map (·.2)) ρ0 ρ2)
      | _ => .no
    | none => .no) ρ) _ := h
  unfold dItems at h
  rw [M.bnd_assoc] at h
  obtain ⟨d, ρ0, e1⟩ : ∃ d ρ0, frz (.sl j) ρ = .ok d ρ0 := by
    cases e1 : frz (.sl j) ρ with
    | no => unfold M.bnd at h; rw [e1] at h; exact h.elim
    | ex x ρ' =>
      dsimp only [frz] at e1
      split at e1 <;> cases e1
    | ok d ρ0 => exact ⟨d, ρ0, rfl⟩
  obtain ⟨v, ev⟩ : ∃ v, σ[j]? = some (some v) := by
    dsimp only [frz] at e1
    split at e1
    · rename_i d' e2
      obtain ⟨v, ev, _⟩ := k.slot j _ e2
      exact ⟨v, getD_ref ev⟩
    · rename_i d' e2
      obtain ⟨a, ev, _⟩ := k.slot j _ e2
      exact ⟨_, getD_ref ev⟩
    · cases e1
  obtain ⟨F1, k1, s1, r1⟩ := k.froze (av := .sl j) ev e1
  have h : After b W σ F1 _ _ := h.later s1
  unfold M.bnd at h
  rw [e1] at h
  dsimp only at h
  cases d with
  | dct kvs =>
    have h : After b W σ F1 (match wipeE (own.map (·.2)) ρ0 with
      | some ρ1 => match loopD (own.map (·.2)) t τ φ ψ (kvs.map fun p => .tup [p.1, p.2]) [] ρ1 with
        | .ok acc ρ2 => .ok (AV.ow (.dct acc)) (restE (own.map (·.2)) ρ0 ρ2)
        | _ => .no
      | none => .no) _ := h
    unfold Rep at r1
    obtain ⟨a, hkk, rfl, hF, rk⟩ := r1
    cases ew : wipeE (own.map (·.2)) ρ0 with
    | none => simp only [ew] at h; exact h.elim
    | some ρ1 =>
    simp only [ew] at h
    cases el : loopD (own.map (·.2)) t τ φ ψ (kvs.map fun p => .tup [p.1, p.2]) [] ρ1 with
    | no => simp only [el] at h; exact h.elim
    | ex x ρ' => simp only [el] at h; exact h.elim
    | ok accE ρE =>
    simp only [el] at h
    have hB := k1.notB hF
    have go : ∀ (od : Obj) (H' : Hp) (Q' : VK), H' a = some (.frz od (.dK hkk)) → (∀ c, c ≠ a → H' c = H c) → (∀ v H2, H2 a = some (.frz od (.dK hkk)) → (∀ H3, H3 a = H a → (∀ c, c ≠ a → H3 c = H2 c) → Q v H3) → Q' v H2) → tDc (iItems (tVar j)) (uG X.K X.mg t) (uT X.K X.mg τ) (uE X.K X.mg φ) (uE X.K X.mg ψ) (own.map (·.2)) σ H' Q' := by
      intro od H' Q' g1 g2 hQ
      refine ⟨.ref a, ev, a, od, hkk, rfl, g1, ?_⟩
      have kL := k1.lock hF g1 g2
      refine dc_turns (b := lockB b a (.dK hkk) od) fit.K fit.mg hsl kL (jok_items hB rk) ew el fun F2 H2 kk s2 v r => ?_
      have hl := Ok.isLocked (P := b.P) hB kk
      refine hQ v H2 hl fun H3 q1 q2 => ?_
      exact h F2 H3 (k1.unlock hF s2 kk q1 q2) s2 v (r.unlock (s2 _ _ hF) q2)
    rcases k1.sub _ _ hF with z | ⟨od, _, q, z⟩
    · refine ⟨_, pe_lock base, a, .dK hkk, z, True.intro, fun od => ?_⟩
      refine go od _ _ upd_same (fun c hc => upd_ne hc) fun v H2 hl q => ⟨hl, q _ (by rw [upd_same, z]) fun c hc => upd_ne hc⟩
    · cases q
      exact ⟨_, base, go od H Q z (fun _ _ => rfl) fun v H2 hl q => q H2 (by rw [hl, z]) fun _ _ => rfl⟩
  | _ => exact h.elim
end
end DL

namespace DL
open PySem PySem.Spec PyProof.Rows L2

/-! ### DL29: d.get(k, x) with any x, list.index, str.rfind -/
def mReadF (T : String) (f : D → List D → Option AV) (φ : M AV) (ψ : M (List AV)) : M AV := φ.bnd fun a => (rd (stab a)).bnd fun d0 => if kindD d0 = T then ψ.bnd fun avs => (frzAll avs).bnd fun ds => (rd (stab a)).bnd fun d => lift (f d ds) else M.stuck
def rDmF (b : Bs) (f : D → List D → Option AV) : V → List V → Hp → VK → Prop := fun x xs H Q => ∃ F σ' ρ d ds, Ok b ρ F H σ' ∧ Rd1 b F H d x ∧ RepL b.K b.mg F ds xs ∧ Gives b ρ σ' F (f d ds) Q
def dGetF : D → List D → Option AV
  | .dct kvs, [k, x] => (keyOf k).map fun kk => .fz ((getK kvs kk).getD x)
  | _, _ => none
section
variable {X : Cx} {b : Bs} {W : WX} {o e : Expr} {es : List Expr} {name : Str} {apos cpos : Pos} {T id : String} {φ : M AV} {ψ : M (List AV)}
theorem run_readF {f : D → List D → Option AV} {σ : L2.St} {F H : Hp} {ρ : DL.Env} {Q : VK} (hT : T ≠ "") (k : Ok b ρ F H σ) (h : After b W σ F (mReadF T f φ ψ ρ) fun av ρ' F' H' => ∀ v, RepA b F' H' σ ρ' av v → Q v H') :
    tE b W φ σ H fun x H1 => tyW b.K T x H1 ∧ tAs b W ψ σ H1 fun xs H2 => rDmF b f x xs H2 Q := by
  refine runE k h fun av x ρ1 F1 H1 k1 s1 r1 h1 => ?_
  obtain ⟨F2, k2, s2, r2⟩ := k1.stab r1
  obtain ⟨d0, q0, h2⟩ := (h1.later s2).read k2 r2
  by_cases hk : kindD d0 = T
  · rw [if_pos hk] at h2
    refine ⟨kind_ty k2.sub q0 hk hT, runA k2 h2 fun avs vs ρ3 F3 H3 k3 s3 r3 h3 => ?_⟩
    obtain ⟨ds, ρ4, F4, k4, s4, q4, h4⟩ := After.frozeAll r3 k3 (Same.refl _) h3
    obtain ⟨d, q1, h5⟩ := h4.read k4 (r2.stays (s3.trans s4))
    exact ⟨F4, σ, ρ4, d, ds, k4, q1, q4, h5.gives⟩
  · rw [if_neg hk] at h2
    exact h2.elim
theorem de_mF {f : D → List D → Option AV} (fit : Fit X b) (pa : PlainAttrs T) (slot : Slot T name id) (hty : typeOf (.builtin id) = pure (.type "method_descriptor")) (hm : MtR X id (rDmF b f)) (ho : PE X o (tE b W φ)) (ha : PA X (e :: es) (tAs b W ψ)) (hT : T ≠ "" := by decide)
    (hbase : attributeBase o name X.env (eval o X.env) = eval o X.env := by rfl)
    (hfew : ((backTo cpos (starEach (e :: es) X.env)).all (fun x => !x.1) && (backToKw cpos (keywordEach [] X.env)).all (fun x => x.1.isSome)
      && decide ((e :: es).length + ([] : List Keyword).length + (if ([] : List Keyword).isEmpty then 0 else 1) < 30)) = true := by rfl)
    (hline : (apos.endLine == cpos.line) = true := by rfl) (hs : starEach (e :: es) X.env = (false, eval e X.env) :: starEach es X.env := by rfl) (hplain : (backTo cpos (starEach es X.env)).any (·.1) = false := by rfl) :
    PE X (.Call (.Attribute o name apos) (e :: es) [] cpos) (tE b W (mReadF T f φ ψ)) := by
  refine weakE (pe_bw pa slot hty hm ho ha hbase hfew hline hs hplain) fun σ H Q ⟨F, ρ, k, h⟩ => ?_
  have := run_readF hT k h
  rw [fit.K] at this
  exact this
theorem md_getF (hu : X.A.units + 1 < cLine) : MtR X "dict.get" (rDmF b dGetF) := by
  refine weakM (mt_dget hu) fun x xs H Q ⟨F, σ', ρ, d, ds, ok, r1, r2, g⟩ => ?_
  unfold dGetF at g
  split at g
  · rename_i kvs k dx
    unfold RepL at r2
    obtain ⟨u, l, rfl, q, r2⟩ := r2
    unfold RepL at r2
    obtain ⟨u2, l, rfl, q2, r2⟩ := r2
    unfold RepL at r2
    subst r2
    obtain ⟨a, hk, rfl, e1, l1⟩ := RepD.dct ok.sub r1
    cases ek : keyOf k with
    | none => rw [ek] at g; exact g.elim
    | some kk =>
      rw [ek] at g
      have ex := keyOf_rd (H := H) (.inl q) ek
      subst ex
      have hv := RepK.val kk l1
      refine ⟨a, _, valV hk kk, rfl, .inl ⟨hk, kk, e1, rfl, rfl⟩, .inr ⟨u2, rfl, ?_⟩⟩
      have g : Gives b ρ σ' F (some (.fz ((getK kvs kk).getD dx))) Q := g
      cases eg : getK kvs kk with
      | none => rw [eg] at hv g; rw [hv]; exact gFz ok g q2
      | some d =>
        rw [eg] at hv g
        obtain ⟨v, ev, rv⟩ := hv
        rw [ev]; exact gFz ok g rv
  · exact g.elim
/-! list.index of ints and texts -/
def isIS : D → Bool
  | .int _ => true
  | .str _ => true
  | _ => false
def eqIS : D → D → Bool
  | .int a, .int c => a == c
  | .str a, .str c => a == c
  | _, _ => false
def idxD (y : D) : List D → Option Nat
  | [] => none
  | d :: r => if eqIS d y then some 0 else (idxD y r).map (· + 1)
def lIndex : D → List D → Option AV
  | .lst l, [y] => if (isIS y && l.all isIS) = true then (idxD y l).map fun j => .fz (.int (j : Nat)) else none
  | _, _ => none
theorem flatIS {d : D} (h : isIS d = true) : flatV (flD d) = true := by cases d <;> first | rfl | cases h
theorem eqV_IS {d e : D} (hd : isIS d = true) (he : isIS e = true) : eqV (flD d) (flD e) = eqIS d e := by
  cases d with
  | int i => cases e <;> first | rfl | exact absurd he (by decide) | cases he
  | str i => cases e <;> first | rfl | exact absurd he (by decide) | cases he
  | _ => cases hd
theorem repIS {K : PySem.W.Frag} {mg : Str → Option Value} {F : Hp} {d : D} {v : V} (h : isIS d = true) (r : Rep K mg F d v) : v = flD d := by
  cases d <;> first
    | (unfold Rep at r; exact r)
    | cases h
theorem repL_IS {K : PySem.W.Frag} {mg : Str → Option Value} {F : Hp} : ∀ {ds : List D} {vs : List V}, ds.all isIS = true → RepL K mg F ds vs → vs = ds.map flD
  | [], _, _, r => by unfold RepL at r; exact r
  | d :: ds, _, h, r => by
    unfold RepL at r
    obtain ⟨v, l, rfl, q, r⟩ := r
    rw [List.all_cons, Bool.and_eq_true] at h
    rw [repIS h.1 q, repL_IS h.2 r]
    rfl
theorem idxD_spec {y : D} : ∀ {l : List D} {j : Nat}, idxD y l = some j → (∃ z, l[j]? = some z ∧ eqIS z y = true) ∧ ∀ m z, m < j → l[m]? = some z → eqIS z y = false
  | [], _, h => by cases h
  | d :: l, j, h => by
    unfold idxD at h
    by_cases e : eqIS d y = true
    · rw [if_pos e] at h
      cases h
      exact ⟨⟨d, rfl, e⟩, fun m z hm => absurd hm (Nat.not_lt_zero _)⟩
    · rw [if_neg e] at h
      cases e2 : idxD y l with
      | none => rw [e2] at h; cases h
      | some i =>
        rw [e2] at h
        cases h
        obtain ⟨⟨z, h1, h2⟩, h3⟩ := idxD_spec e2
        refine ⟨⟨z, h1, h2⟩, fun m z' hm hz => ?_⟩
        cases m with
        | zero => cases hz; exact Bool.eq_false_iff.mpr e
        | succ m => exact h3 m z' (Nat.lt_of_succ_lt_succ hm) hz
theorem md_index : MtD X "list.index" lIndex := by
  intro b fit
  refine weakM mt_index fun x xs H Q ⟨F, σ', ρ, d, ds, ok, r1, r2, g⟩ => ?_
  unfold lIndex at g
  split at g
  · rename_i l y
    obtain ⟨u, rfl, q⟩ := r2.one
    obtain ⟨a, ys, rfl, e1, l1⟩ := RepD.lst ok.sub r1
    split at g
    · rename_i hf
      rw [Bool.and_eq_true] at hf
      have el := repL_IS hf.2 l1
      have eu : u = flD y := by
        rcases q with q | ⟨_, _, oa⟩
        · exact repIS hf.1 q
        · cases y <;> first
            | exact oa.elim
            | cases hf.1
      cases e : idxD y l with
      | none => rw [e] at g; exact g.elim
      | some j =>
        rw [e] at g
        obtain ⟨⟨z, hz, ez⟩, hno⟩ := idxD_spec e
        have hl : ∀ z ∈ l, isIS z = true := List.all_eq_true.mp hf.2
        subst el eu
        refine ⟨a, _, _, j, flD z, rfl, rfl, SqL.of e1, flatIS hf.1, ?_, by rw [List.getElem?_map, hz]; rfl, (eqV_IS (hl z (List.mem_of_getElem? hz)) hf.1).trans ez, fun m z' hm hz' => ?_, gInt ok g⟩
        · exact List.all_eq_true.mpr fun v hv => by
            obtain ⟨w, hw, rfl⟩ := List.mem_map.mp hv
            exact flatIS (hl w hw)
        · rw [List.getElem?_map] at hz'
          cases e3 : l[m]? with
          | none => rw [e3] at hz'; cases hz'
          | some w =>
            rw [e3] at hz'
            cases hz'
            exact (eqV_IS (hl w (List.mem_of_getElem? e3)) hf.1).trans (hno m w hm e3)
    · exact g.elim
  · exact g.elim
theorem md_rfind : MtD X "str.rfind" sRfind := by
  intro b fit
  refine weakM mt_rfind fun x xs H Q ⟨F, σ', ρ, d, ds, ok, r1, r2, g⟩ => ?_
  unfold sRfind at g
  split at g
  · obtain ⟨u, rfl, q⟩ := r2.one
    exact ⟨_, _, rStr r1, by rw [rStr q], gInt ok g⟩
  · exact g.elim
end
theorem dw_pt {X : Cx} {v : List Expr} {o : BoolOp} {pos : Pos} {t : TT} (h : PW X (.BoolOp o v pos) t) : PT X (.BoolOp o v pos) t := h.pt
/-- a def's body, with what the ground says of exceptions -/
theorem fn_De {P : Program} {w : World} {K : PySem.W.Frag} {mg : Str → Option Value} {base : Heap} {x qual : Str} {params : Arguments} {body : List Stmt} {scope : Scope} {dvs : List V} {kws : List (Str × V)} {f : Addr} {fd : FuncData} {N ps : List Str} {k : Nat} {φ : M Ctl} (F : FunD K x qual params body scope dvs kws f fd) (S : FnScope N ps scope)
    (hbody : ∀ (cdv : Value) (A : Around) (outer : List PySem.Env) (s : Shared) (H : Hp) (E : XK) (b : Bs), Fit (cxOf (L2.CX P w) P w K mg base N qual scope f cdv A outer s H E) b → b.X = none →
      Bd (cxOf (L2.CX P w) P w K mg base N qual scope f cdv A outer s H E) (fun c d _ H => E c d H) k →
      PSs (cxOf (L2.CX P w) P w K mg base N qual scope f cdv A outer s H E) body (tS b (fun c d _ H => E c d H) φ)) : FnG P w K mg base (k + 1) f fd ps (spD K mg ps.length (runB N.length φ)) := by
  obtain ⟨oc, od, dV, kV, doc, pm, an, cdv, ct, osl, rfl, lk, hcd, _, _⟩ := F.ex
  refine fnG_of lk hcd S (fun vs H Q E h => h.1) fun A outer s H vs Q E hr hgd h => ?_
  obtain ⟨hl, F0, ks, sb, AA, nd, h⟩ := h
  exact ⟨_, hbody cdv A outer s H E (bsOf K mg F0 H ks vs) ⟨rfl, rfl⟩ rfl ⟨takes_of rfl rfl rfl rfl, passes_of rfl, hr, hgd⟩, body_run sb AA nd h⟩
end DL

/-! ### DL30: == and != of data with dicts in it, when the two sides are equal -/
namespace NeE
open PySem PySem.SeqAt
open AutoSeq1 (wpAny_loadPart')
open MeetsSeq MeetsSeq2 MeetsSeq3 SeqRoads2
section
variable {prog : Program} {w : World}
/-- what the two lists are, and that item by item they are equal -/
def LL (A : Around) (s : Shared) (p q : Addr) (xs ys : Array Value) (m m' : Nat) (dp dq : Option Addr) (sp sq : Array (Option Value)) : Prop :=
  s.heap.get? p = some ⟨.type "list", dp, .seq xs m, sp⟩ ∧ s.heap.get? q = some ⟨.type "list", dq, .seq ys m', sq⟩ ∧ xs.size = ys.size ∧ ∀ j (g : j < xs.size) (g' : j < ys.size), EqP prog w A.in1 s xs[j] ys[j] true
theorem ne_turns {p q : Addr} {xs ys : Array Value} {m m' : Nat} {dp dq : Option Addr} {sp sq : Array (Option Value)} : ∀ (k i : Nat), i + k = xs.size → MeetsIn prog w (Builtin.«list.__eq__.loop» ⟨[.ref p, .ref q, rawInt i, rawInt 3], []⟩) fun A R s => LL (prog := prog) (w := w) A s p q xs ys m m' dp dq sp sq ∧ R (.ok (.ret (.bool false))) s
  | 0, i, hk => fun A R s hh => by
    obtain ⟨⟨lp, lq, sz, it⟩, fin⟩ := hh; obtain ⟨hp, g, d, tk, os⟩ := s
    wp_walk using wpAny_loadPart' lp, wpAny_loadPart' lq
    have n1 : xs[((i : Nat) : Int).toNat]? = none := by rw [Int.toNat_natCast, Array.getElem?_eq_none (by omega)]
    have n2 : ys[((i : Nat) : Int).toNat]? = none := by rw [Int.toNat_natCast, Array.getElem?_eq_none (by omega)]
    rw [n1, n2]
    wp_walk using wpAny_loadPart' lp, wpAny_loadPart' lq
    show R (.ok (.ret (.bool (xs.size != ys.size)))) _
    have e : (xs.size != ys.size) = false := by rw [sz]; simp
    rw [e]; exact fin
  | k + 1, i, hk => fun A R s hh => by
    have ih := ne_turns (p := p) (q := q) (xs := xs) (ys := ys) (m := m) (m' := m') (dp := dp) (dq := dq) (sp := sp) (sq := sq) k (i + 1) (by omega)
    obtain ⟨⟨lp, lq, sz, it⟩, fin⟩ := hh; obtain ⟨hp, g, d, tk, os⟩ := s
    wp_walk using wpAny_loadPart' lp, wpAny_loadPart' lq
    have l1 : i < xs.size := by omega
    have l2 : i < ys.size := by omega
    have n1 : xs[((i : Nat) : Int).toNat]? = some xs[i] := by rw [Int.toNat_natCast, Array.getElem?_eq_getElem l1]
    have n2 : ys[((i : Nat) : Int).toNat]? = some ys[i] := by rw [Int.toNat_natCast, Array.getElem?_eq_getElem l2]
    have nx : (i : Int) + 1 = ((i + 1 : Nat) : Int) := by omega
    rw [n1, n2]
    refine wpAny_bind (it i l1 l2 _ _ ?_)
    wp_walk
    rw [nx]; refine ⟨plainId_quiet plain_eq_loop _, codeAny_builtin entry_eq_loop ?_⟩
    rw [Around.under_plainId plain_eq_loop _]; exact ih A R _ ⟨⟨lp, lq, sz, it⟩, fin⟩
theorem ne_list {p q : Addr} {xs ys : Array Value} {m m' : Nat} {dp dq : Option Addr} {sp sq : Array (Option Value)} : MeetsIn prog w (Builtin.«list.__ne__» ⟨[.ref p, .ref q], []⟩) fun A R s => LL (prog := prog) (w := w) A s p q xs ys m m' dp dq sp sq ∧ R (.ok (.ret (.bool false))) s := fun A R s hh => by
  have ih := ne_turns (prog := prog) (w := w) (p := p) (q := q) (xs := xs) (ys := ys) (m := m) (m' := m') (dp := dp) (dq := dq) (sp := sp) (sq := sq) xs.size 0 (by omega)
  obtain ⟨⟨lp, lq, sz, it⟩, fin⟩ := hh; obtain ⟨hp, g, d, tk, os⟩ := s
  have f3 := AutoSeq1.sub_list_list; have nz : ¬ (xs.size != ys.size) = true := by rw [sz]; simp
  wp_walk using wpAny_loadPart' lp, wpAny_loadPart' lq
  refine ⟨plainId_quiet plain_eq_loop _, codeAny_builtin entry_eq_loop ?_⟩
  rw [Around.under_plainId plain_eq_loop _]; exact ih A R _ ⟨⟨lp, lq, sz, it⟩, fin⟩
theorem rcNe_lists {A : Around} {s : Shared} {p q : Addr} {xs ys : Array Value} (lp : s.heap.IsList p xs) (lq : s.heap.IsList q ys) (sz : xs.size = ys.size) (hu : A.units < cLine) (it : ∀ j (g : j < xs.size) (g' : j < ys.size), EqP prog w A.in1 s xs[j] ys[j] true)
    (E Q : Value → Shared → Prop) (fin : Q (.bool false) s) : wpAny (model prog w) A (richCompare .NotEq (.ref p) (.ref q)) Q E s := by
  obtain ⟨⟨c1, d1, t1, s1⟩, o1, e1, m1, h1⟩ := id lp; obtain ⟨⟨c2, d2, t2, s2⟩, o2, e2, m2, h2⟩ := id lq
  simp only at e1 h1 e2 h2; subst e1 h1 e2 h2
  have k1 : s.TypeIs (.ref p) "list" := ⟨_, o1, rfl⟩; have k2 : s.TypeIs (.ref q) "list" := ⟨_, o2, rfl⟩
  exact wpAny_richCompare_same_room (op := .NotEq) k1 k2 F.slot_list_ne (call_meetsIn F.slot_list_ne k1 F.entry_list_ne (F.args_list_ne_2 _ _) ne_list ⟨⟨o1, o2, sz, it⟩, show Value.bool false ≠ Value.notImplemented ∧ Q (.bool false) s from ⟨(fun x => nomatch x), fin⟩⟩) hu
end
end NeE
namespace DL
open PySem PySem.Spec PyProof.Rows L2
mutual
/-- surely equal, dicts within lists and dicts -/
def sameX : D → Nat → D → Bool
  | .lst xs, n, e => match e, n with
    | .lst ys, m + 1 => xs.length == ys.length && sameXL xs m ys
    | _, _ => false
  | .dct ks, n, e => match e, n with
    | .dct ls, m + 1 => ks.length == ls.length && sameXK ks m ls
    | _, _ => false
  | d, _, e => eqD d 38 e == some true
def sameXL : List D → Nat → List D → Bool
  | x :: xs, n, ys => match ys with
    | y :: ys => sameX x n y && sameXL xs n ys
    | [] => false
  | [], _, ys => match ys with
    | [] => true
    | _ => false
def sameXK : List (D × D) → Nat → List (D × D) → Bool
  | (k, v) :: r, n, ls => (match (keyOf k).bind (getK ls) with
    | some u => sameX v n u
    | none => false) && sameXK r n ls
  | [], _, _ => true
end
def isLs : D → Bool
  | .lst _ => true
  | _ => false
def opNeX (a b : D) : Option AV := match opNe a b with
  | some r => some r
  | none => if isLs a && sameX a 20 b then some (.fz (.bl false)) else none
section
variable {X : Cx} {pins : List (Addr × Obj)} {σ : L2.St} {F H : Hp} {s : Shared} {mg : Str → Option Value}
theorem sameXL_get : ∀ {xs ys : List D} {n : Nat}, sameXL xs n ys = true → ∀ (i : Nat) (x y : D), xs[i]? = some x → ys[i]? = some y → sameX x n y = true
  | [], _, _, _, i, x, y, h, _ => by cases h
  | x :: xs, [], n, h, i, x', y', e1, e2 => by cases e2
  | x :: xs, y :: ys, n, h, i, x', y', e1, e2 => by
    unfold sameXL at h
    rw [Bool.and_eq_true] at h
    cases i with
    | zero => cases e1; cases e2; exact h.1
    | succ i => exact sameXL_get h.2 i x' y' (by simpa using e1) (by simpa using e2)
/-- a dict that is read, locked or not, in the heap -/
theorem heapD (I : Inv X pins σ H s) {a : Addr} {hk : List (Key × V)} (h : Rd H a (.dK hk)) : ∃ vs, (a == sysModules) = false ∧ KV hk vs ∧ s.heap.DictOf (mixKind X.prog X.w) a vs := by
  rcases h with h | ⟨ob, h⟩
  · obtain ⟨_, y, vs, r, d⟩ := (show ObjOk X.prog X.w H s.heap a (.dK hk) from I.hok a _ h)
    exact ⟨vs, y, r, d⟩
  · obtain ⟨hs, hgd, hx, es, ep, vs, hdt, hsz, kv, hm⟩ := I.frzK h
    exact ⟨vs, hs, kv, hm.dictOf⟩
mutual
theorem sameX_eq (I : Inv X pins σ H s) (sb : Sub F H) : ∀ (d : D) {n : Nat} {e : D} {v u : V} {vv uu : Value}, RepD X.K mg F H d v → RepD X.K mg F H e u → RelV v vv → RelV u uu → sameX d n e = true → ∀ A : Around, A.units + n + 41 < cLine → SeqAt.EqP X.prog X.w A s vv uu true
  | .lst ds, n, e, v, u, vv, uu, r1, r2, q1, q2, h, A, hu => by
    unfold sameX at h
    cases e with
    | lst es => cases n with
      | zero => cases h
      | succ m =>
        rw [Bool.and_eq_true] at h
        obtain ⟨a, xs, rfl, e1, l1⟩ := r1.lst sb
        obtain ⟨c, ys, rfl, e2, l2⟩ := r2.lst sb
        cases q1
        cases q2
        by_cases hac : a = c
        · subst hac
          exact (SeqAt.EqAt.same _).eqP
        · obtain ⟨us, t1, p1⟩ := heapL I e1
          obtain ⟨ws, t2, p2⟩ := heapL I e2
          have hl : ds.length = es.length := eq_of_beq h.1
          have sz : us.toArray.size = ws.toArray.size := by rw [List.size_toArray, List.size_toArray, ← t1.length, ← t2.length, ← l1.len, ← l2.len, hl]
          refine SeqAt.eqP_refs hac fun E Q q => ?_
          refine SeqAt.rcP_lists (e := fun _ => true) p1 p2 sz (by omega) (fun j g g' => ?_) E Q (by
            rw [show ((List.range us.toArray.size).all fun _ => true) = true from List.all_eq_true.mpr fun _ _ => rfl]
            exact q)
          have z := sameXL_eq I sb ds l1 l2 t1 t2 h.2 A.in1 (by show A.units + 1 + m + 41 < cLine; omega) j (by simpa using g) (by simpa using g')
          simpa using z
    | _ => cases h
  | .dct ks, n, e, v, u, vv, uu, r1, r2, q1, q2, h, A, hu => by
    unfold sameX at h
    cases e with
    | dct ls => cases n with
      | zero => cases h
      | succ m =>
        rw [Bool.and_eq_true] at h
        obtain ⟨a, hk, rfl, e1, l1⟩ := RepD.dct sb r1
        obtain ⟨c, hl, rfl, e2, l2⟩ := RepD.dct sb r2
        cases q1
        cases q2
        by_cases hac : a = c
        · subst hac
          exact (SeqAt.EqAt.same _).eqP
        · obtain ⟨va, sa, ra, da⟩ := heapD I e1
          obtain ⟨vb, sb', rb, db⟩ := heapD I e2
          have len : va.length = vb.length := by
            have h1 := RepK.len l1
            have h2 := RepK.len l2
            have h3 : hk.length = va.length := Paired.length ra
            have h4 : hl.length = vb.length := Paired.length rb
            have h5 : ks.length = ls.length := eq_of_beq h.1
            omega
          refine SeqAt.eqP_refs hac fun E Q q => ?_
          refine PySem.W.rcP_dicts (knd := mixKind X.prog X.w) (r := true) sa sb' da db (by omega) (fun _ => sameXK_eq I sb ks l1 l2 ra rb h.2 A.in1 (by show A.units + 1 + m + 41 < cLine; omega)) E Q ?_
          rw [show (va.length == vb.length && true) = true from by rw [len]; simp]
          exact q
    | _ => cases h
  | .tup ds, n, e, v, u, vv, uu, r1, r2, q1, q2, h, A, hu => by
    unfold sameX at h
    exact (eqD_at I sb 38 r1 r2 q1 q2 (eq_of_beq h) A (by omega)).eqP
  | .non, n, e, v, u, vv, uu, r1, r2, q1, q2, h, A, hu => by
    unfold sameX at h
    exact (eqD_at I sb 38 r1 r2 q1 q2 (eq_of_beq h) A (by omega)).eqP
  | .bl c, n, e, v, u, vv, uu, r1, r2, q1, q2, h, A, hu => by
    unfold sameX at h
    exact (eqD_at I sb 38 r1 r2 q1 q2 (eq_of_beq h) A (by omega)).eqP
  | .int c, n, e, v, u, vv, uu, r1, r2, q1, q2, h, A, hu => by
    unfold sameX at h
    exact (eqD_at I sb 38 r1 r2 q1 q2 (eq_of_beq h) A (by omega)).eqP
  | .str c, n, e, v, u, vv, uu, r1, r2, q1, q2, h, A, hu => by
    unfold sameX at h
    exact (eqD_at I sb 38 r1 r2 q1 q2 (eq_of_beq h) A (by omega)).eqP
  | .ins c fs, n, e, v, u, vv, uu, r1, r2, q1, q2, h, A, hu => by
    unfold sameX at h
    exact (eqD_at I sb 38 r1 r2 q1 q2 (eq_of_beq h) A (by omega)).eqP
  | .scr c, n, e, v, u, vv, uu, r1, r2, q1, q2, h, A, hu => by
    unfold sameX at h
    exact (eqD_at I sb 38 r1 r2 q1 q2 (eq_of_beq h) A (by omega)).eqP
theorem sameXL_eq (I : Inv X pins σ H s) (sb : Sub F H) : ∀ (ds : List D) {n : Nat} {es : List D} {xs ys : List V} {us ws : List Value}, RepL X.K mg F ds xs → RepL X.K mg F es ys → Vals xs us → Vals ys ws → sameXL ds n es = true → ∀ A : Around, A.units + n + 41 < cLine → ∀ (j : Nat) (g : j < us.length) (g' : j < ws.length), SeqAt.EqP X.prog X.w A s us[j] ws[j] true
  | [], n, es, xs, ys, us, ws, l1, l2, t1, t2, h, A, hu, j, g, g' => by
    unfold RepL at l1
    subst l1
    cases t1
    exact absurd g (Nat.not_lt_zero j)
  | d :: ds, n, [], xs, ys, us, ws, l1, l2, t1, t2, h, A, hu, j, g, g' => by
    unfold RepL at l2
    subst l2
    cases t2
    exact absurd g' (Nat.not_lt_zero j)
  | d :: ds, n, e :: es, xs, ys, us, ws, l1, l2, t1, t2, h, A, hu, j, g, g' => by
    unfold sameXL at h
    rw [Bool.and_eq_true] at h
    unfold RepL at l1 l2
    obtain ⟨v, xs', rfl, p1, l1⟩ := l1
    obtain ⟨u, ys', rfl, p2, l2⟩ := l2
    cases t1 with
    | cons b1 t1 => cases t2 with
      | cons b2 t2 => cases j with
        | zero => exact sameX_eq I sb d (.inl p1) (.inl p2) b1 b2 h.1 A hu
        | succ j => exact sameXL_eq I sb ds l1 l2 t1 t2 h.2 A hu j (Nat.lt_of_succ_lt_succ g) (Nat.lt_of_succ_lt_succ g')
theorem sameXK_eq (I : Inv X pins σ H s) (sb : Sub F H) : ∀ (ks : List (D × D)) {n : Nat} {ls : List (D × D)} {hk hl : List (Key × V)} {va vb : List (Key × Value)}, RepK X.K mg F ks hk → RepK X.K mg F ls hl → KV hk va → KV hl vb → sameXK ks n ls = true → ∀ A : Around, A.units + n + 41 < cLine → PySem.W.KeqHitsP X.prog X.w A s vb va true
  | [], n, ls, hk, hl, va, vb, l1, l2, ra, rb, h, A, hu => by
    unfold RepK at l1
    subst l1
    unfold KV at ra
    cases ra
    exact .nil
  | (k, d) :: ks, n, ls, hk, hl, va, vb, l1, l2, ra, rb, h, A, hu => by
    unfold sameXK at h
    rw [Bool.and_eq_true] at h
    unfold RepK at l1
    obtain ⟨kk, v, r, rfl, hkk, p1, l1⟩ := l1
    have ek := dkey_iff.mp hkk
    unfold KV at ra
    cases ra with
    | @cons _ q _ qs h1 ra =>
      obtain ⟨key, v'⟩ := q
      obtain ⟨hkey, rv⟩ := h1
      have hkey : kk = key := hkey
      subst hkey
      have h1 := h.1
      rw [ek] at h1
      have h1 : (match getK ls kk with
        | some u => sameX d n u
        | none => false) = true := h1
      cases eg : getK ls kk with
      | none => rw [eg] at h1; cases h1
      | some u =>
        rw [eg] at h1
        have hv := RepK.val kk l2
        rw [eg] at hv
        obtain ⟨uv, e1, p2⟩ := hv
        have rr : RelO (some uv) (valueAt vb kk) := by rw [← e1]; exact rb.val kk
        obtain ⟨y, hy, ry⟩ := rr.some_of
        show PySem.W.KeqHitsP X.prog X.w A s vb ((kk, v') :: qs) (true && true)
        exact .hit hy (sameX_eq I sb d (.inl p1) (.inl p2) rv ry h1 A hu) (sameXK_eq I sb ks l1 l2 ra rb h.2 A hu)
end
end
section
variable {X : Cx}
theorem od_neX (hu : X.A.units + 64 < cLine) : OpD X (compareOp .NotEq) opNeX := by
  intro b fit pins s σ H x y vv uu Q I rx ry ⟨F, σ', ρ, d, e, ok, r1, r2, g⟩
  cases h0 : opNe d e with
  | some r =>
    refine od_ne (by omega) b fit pins s σ H x y vv uu Q I rx ry ⟨F, σ', ρ, d, e, ok, r1, r2, ?_⟩
    have eq : opNeX d e = some r := by unfold opNeX; rw [h0]
    rw [eq] at g
    rw [h0]
    exact g
  | none =>
    have eq : opNeX d e = if isLs d && sameX d 20 e then some (.fz (.bl false)) else none := by unfold opNeX; rw [h0]
    rw [eq] at g
    by_cases hs : (isLs d && sameX d 20 e) = true
    · rw [if_pos hs] at g
      rw [Bool.and_eq_true] at hs
      obtain ⟨hd, hs⟩ := hs
      have r1 : RepD X.K b.mg F H d x := by rw [← fit.K]; exact r1
      have r2 : RepD X.K b.mg F H e y := by rw [← fit.K]; exact r2
      show wpAny (model X.prog X.w) X.A (richCompare .NotEq vv uu) (EP X pins σ Q) X.xe s
      cases d with
      | lst ds =>
        unfold sameX at hs
        cases e with
        | lst es =>
          rw [Bool.and_eq_true] at hs
          obtain ⟨a, xs, rfl, e1, l1⟩ := r1.lst ok.sub
          obtain ⟨c, ys, rfl, e2, l2⟩ := r2.lst ok.sub
          cases rx
          cases ry
          obtain ⟨us, t1, p1⟩ := heapL I e1
          obtain ⟨ws, t2, p2⟩ := heapL I e2
          have hl : ds.length = es.length := eq_of_beq hs.1
          have sz : us.toArray.size = ws.toArray.size := by rw [List.size_toArray, List.size_toArray, ← t1.length, ← t2.length, ← l1.len, ← l2.len, hl]
          refine NeE.rcNe_lists p1 p2 sz (by omega) (fun j g g' => ?_) _ _ ⟨.bl false, H, I, rfl, gBl ok g⟩
          have z := sameXL_eq I ok.sub ds l1 l2 t1 t2 hs.2 X.A.in1 (by show X.A.units + 1 + 19 + 41 < cLine; omega) j (by simpa using g) (by simpa using g')
          simpa using z
        | _ => cases hs
      | _ => cases hd
    · rw [if_neg hs] at g
      exact g.elim
end
end DL

namespace DL
open PySem PySem.Spec PyProof.Rows L2
/-! ### running mirrors -/
theorem bnd_app {α β : Type} (m : M α) (f : α → M β) (ρ : Env) : m.bnd f ρ = match m ρ with
  | .ok a ρ' => f a ρ'
  | .ex e ρ' => .ex e ρ'
  | .no => .no := rfl
theorem ret_app {α : Type} (a : α) (ρ : Env) : M.ret a ρ = .ok a ρ := rfl
theorem stuck_app {α : Type} (ρ : Env) : (M.stuck : M α) ρ = .no := rfl
@[simp] theorem bnd_appS {α β : Type} (m : M α) (f : α → M β) (ρ : Env) : m.bnd f ρ = match m ρ with
  | .ok a ρ' => f a ρ'
  | .ex e ρ' => .ex e ρ'
  | .no => .no := rfl
@[simp] theorem ret_appS {α : Type} (a : α) (ρ : Env) : M.ret a ρ = .ok a ρ := rfl
@[simp] theorem stuck_appS {α : Type} (ρ : Env) : (M.stuck : M α) ρ = .no := rfl
@[simp] theorem rd_fz (d : D) (ρ : Env) : rd (.fz d) ρ = .ok d ρ := rfl
@[simp] theorem rd_ow (d : D) (ρ : Env) : rd (.ow d) ρ = .ok d ρ := rfl
@[simp] theorem rd_sl (i : Nat) (ρ : Env) : rd (.sl i) ρ = match (ρ[i]?).bind Sl.data? with
  | some d => .ok d ρ
  | none => .no := rfl
@[simp] theorem data_fz (d : D) : (Sl.fz d).data? = some d := rfl
@[simp] theorem data_ow (d : D) : (Sl.ow d).data? = some d := rfl
@[simp] theorem data_bo (d : D) : (Sl.bo d).data? = some d := rfl
@[simp] theorem data_un : Sl.un.data? = none := rfl
@[simp] theorem held_fz (d : D) : (Sl.fz d).held = false := rfl
@[simp] theorem held_ow (d : D) : (Sl.ow d).held = true := rfl
@[simp] theorem held_bo (d : D) : (Sl.bo d).held = true := rfl
@[simp] theorem held_un : Sl.un.held = false := rfl
@[simp] theorem put_ow (d e : D) : (Sl.ow d).put e = .ow e := rfl
@[simp] theorem put_bo (d e : D) : (Sl.bo d).put e = .bo e := rfl
@[simp] theorem isBo_fz (d : D) : isBo (.fz d) = false := rfl
@[simp] theorem isBo_ow (d : D) : isBo (.ow d) = false := rfl
@[simp] theorem isBo_bo (d : D) : isBo (.bo d) = true := rfl
@[simp] theorem isBo_un : isBo .un = false := rfl
@[simp] theorem stab_fz (d : D) : stab (.fz d) = .fz d := rfl
@[simp] theorem stab_ow (d : D) : stab (.ow d) = .fz d := rfl
@[simp] theorem stab_sl (i : Nat) : stab (.sl i) = .sl i := rfl
@[simp] theorem frz_fz (d : D) (ρ : Env) : frz (.fz d) ρ = .ok d ρ := rfl
@[simp] theorem frz_ow (d : D) (ρ : Env) : frz (.ow d) ρ = .ok d ρ := rfl
@[simp] theorem frz_sl (i : Nat) (ρ : Env) : frz (.sl i) ρ = match ρ[i]? with
  | some (.fz d) => .ok d ρ
  | some (.ow d) => .ok d (ρ.set i (.fz d))
  | _ => .no := rfl
@[simp] theorem mVar_app (i : Nat) (ρ : Env) : mVar i ρ = match ρ[i]? with
  | some .un => .no
  | some _ => .ok (.sl i) ρ
  | none => .no := rfl
@[simp] theorem mC_app (d : D) (ρ : Env) : mC d ρ = .ok (.fz d) ρ := rfl
@[simp] theorem lift_some {α : Type} (a : α) (ρ : Env) : lift (some a) ρ = .ok a ρ := rfl
@[simp] theorem lift_none {α : Type} (ρ : Env) : (lift none : M α) ρ = .no := rfl
@[simp] theorem isBl_bl (k : Bool) (ρ : Env) : isBl (.bl k) ρ = .ok k ρ := rfl
@[simp] theorem mOp_app (f : D → D → Option AV) (φ ψ : M AV) (ρ : Env) : mOp f φ ψ ρ = (φ.bnd fun a => ψ.bnd fun c => (rd (stab a)).bnd fun x => (rd (stab c)).bnd fun y => lift (f x y)) ρ := rfl
@[simp] theorem mUn_app (f : D → Option AV) (φ : M AV) (ρ : Env) : mUn f φ ρ = (φ.bnd fun a => (rd (stab a)).bnd fun x => lift (f x)) ρ := rfl
@[simp] theorem mCall_app (f : List D → Option AV) (φ : M (List AV)) (ρ : Env) : mCall f φ ρ = (φ.bnd fun avs => (rdAll avs).bnd fun ds => lift (f ds)) ρ := rfl
@[simp] theorem rdAll_nil (ρ : Env) : rdAll [] ρ = .ok [] ρ := rfl
@[simp] theorem rdAll_cons (a : AV) (r : List AV) (ρ : Env) : rdAll (a :: r) ρ = ((rd a).bnd fun d => (rdAll r).bnd fun ds => M.ret (d :: ds)) ρ := rfl
@[simp] theorem frzAll_nil (ρ : Env) : frzAll [] ρ = .ok [] ρ := rfl
@[simp] theorem frzAll_cons (a : AV) (r : List AV) (ρ : Env) : frzAll (a :: r) ρ = ((frz a).bnd fun d => (frzAll r).bnd fun ds => M.ret (d :: ds)) ρ := rfl
@[simp] theorem mNil_app (ρ : Env) : mNil ρ = .ok [] ρ := rfl
@[simp] theorem mCons_app (φ : M AV) (ψ : M (List AV)) (ρ : Env) : mCons φ ψ ρ = (φ.bnd fun a => ψ.bnd fun r => M.ret (stab a :: r)) ρ := rfl
@[simp] theorem mTup_app (φ : M (List AV)) (ρ : Env) : mTup φ ρ = (φ.bnd fun avs => (frzAll avs).bnd fun ds => if ds.length ≤ sizeLine then M.ret (.fz (.tup ds)) else M.stuck) ρ := rfl
@[simp] theorem mLst_app (φ : M (List AV)) (ρ : Env) : mLst φ ρ = (φ.bnd fun avs => (frzAll avs).bnd fun ds => if ds.length ≤ sizeLine then M.ret (.ow (.lst ds)) else M.stuck) ρ := rfl
@[simp] theorem mTest_app (φ : M AV) (ρ : Env) : mTest φ ρ = (φ.bnd fun a => (rd a).bnd isBl) ρ := rfl
@[simp] theorem mNot_app (φ : M Bool) (ρ : Env) : mNot φ ρ = (φ.bnd fun k => M.ret (!k)) ρ := rfl
@[simp] theorem mIf_app {α : Type} (t : M Bool) (φ ψ : M α) (ρ : Env) : mIf t φ ψ ρ = match t ρ with
  | .ok k ρ' => if k then φ ρ' else ψ ρ'
  | .ex e ρ' => .ex e ρ'
  | .no => .no := by
  unfold mIf
  rw [bnd_app]
  cases t ρ with
  | ok k ρ' => cases k <;> rfl
  | _ => rfl
@[simp] theorem mAnd_app (φ ψ : M Bool) (ρ : Env) : mAnd φ ψ ρ = match φ ρ with
  | .ok k ρ' => if k then ψ ρ' else .ok false ρ'
  | .ex e ρ' => .ex e ρ'
  | .no => .no := by
  unfold mAnd
  rw [bnd_app]
  cases φ ρ with
  | ok k ρ' => cases k <;> rfl
  | _ => rfl
@[simp] theorem mOr_app (φ ψ : M Bool) (ρ : Env) : mOr φ ψ ρ = match φ ρ with
  | .ok k ρ' => if k then .ok true ρ' else ψ ρ'
  | .ex e ρ' => .ex e ρ'
  | .no => .no := by
  unfold mOr
  rw [bnd_app]
  cases φ ρ with
  | ok k ρ' => cases k <;> rfl
  | _ => rfl
@[simp] theorem mSeq_app (φ ψ : M Ctl) (ρ : Env) : mSeq φ ψ ρ = match φ ρ with
  | .ok .nx ρ' => ψ ρ'
  | r => r := by
  unfold mSeq
  rw [bnd_app]
  cases φ ρ with
  | ok k ρ' => cases k <;> rfl
  | _ => rfl
@[simp] theorem mRet_app (φ : M AV) (ρ : Env) : mRet φ ρ = (φ.bnd fun av => M.ret (.rt av)) ρ := rfl
@[simp] theorem mExpr_app (φ : M AV) (ρ : Env) : mExpr φ ρ = (φ.bnd fun _ => M.ret .nx) ρ := rfl
@[simp] theorem mRaise_app (x : Str) (ρ : Env) : mRaise x ρ = .ex ⟨x, []⟩ ρ := rfl
@[simp] theorem setFz_app (i : Nat) (d : D) (ρ : Env) : setFz i d ρ = match ρ[i]? with
  | some s => if isBo s then .no else .ok () (ρ.set i (.fz d))
  | none => .no := rfl
@[simp] theorem asg_fz (i : Nat) (d : D) : asg i (.fz d) = setFz i d := rfl
@[simp] theorem asg_ow (i : Nat) (d : D) (ρ : Env) : asg i (.ow d) ρ = match ρ[i]? with
  | some s => if isBo s then .no else .ok () (ρ.set i (.ow d))
  | none => .no := rfl
@[simp] theorem asg_sl (i j : Nat) (ρ : Env) : asg i (.sl j) ρ = ((frz (.sl j)).bnd fun d => setFz i d) ρ := rfl
@[simp] theorem mAsg_app (i : Nat) (φ : M AV) (ρ : Env) : mAsg i φ ρ = (φ.bnd fun av => (asg i av).bnd fun _ => M.ret .nx) ρ := rfl
@[simp] theorem mAsgM_app (φ : M AV) (ψ : D → M Unit) (ρ : Env) : mAsgM φ ψ ρ = (φ.bnd fun av => (frz av).bnd fun d => (ψ d).bnd fun _ => M.ret .nx) ρ := rfl
@[simp] theorem gmTup_app (n : Nat) (χ : List D → M Unit) (ds : List D) : gmTup n χ (.tup ds) = if ds.length = n then χ ds else M.stuck := rfl
@[simp] theorem gmCons_app (ψ : D → M Unit) (χ : List D → M Unit) (d : D) (ds : List D) : gmCons ψ χ (d :: ds) = (ψ d).bnd fun _ => χ ds := rfl
@[simp] theorem gmNil_app (ρ : Env) : gmNil [] ρ = .ok () ρ := rfl
@[simp] theorem gmSub_app (φ ψ : M AV) (x : D) (ρ : Env) : gmSub φ ψ x ρ = (φ.bnd fun a => ψ.bnd fun i => (rd (stab i)).bnd fun k => putAt (stab a) k x) ρ := rfl
@[simp] theorem putAt_sl (i : Nat) (k x : D) (ρ : Env) : putAt (.sl i) k x ρ = match ρ[i]? with
    | some s => if s.held then match s.data? with
        | some d => match setD d k x with
          | some d' => .ok () (ρ.set i (s.put d'))
          | none => .no
        | none => .no
      else .no
    | none => .no := rfl
@[simp] theorem mutAt_sl (f : D → List D → Option (D × D)) (i : Nat) (ds : List D) (ρ : Env) : mutAt f (.sl i) ds ρ = match ρ[i]? with
    | some s => if s.held then match s.data? with
        | some d => match f d ds with
          | some (d', r) => .ok (.fz r) (ρ.set i (s.put d'))
          | none => .no
        | none => .no
      else .no
    | none => .no := rfl
@[simp] theorem mRead_app (T : String) (f : D → List D → Option AV) (φ : M AV) (ψ : M (List AV)) (ρ : Env) : mRead T f φ ψ ρ = (φ.bnd fun a => (rd (stab a)).bnd fun d0 => if kindD d0 = T then ψ.bnd fun avs => (rd (stab a)).bnd fun d => (rdAll avs).bnd fun ds => lift (f d ds) else M.stuck) ρ := rfl
@[simp] theorem mMut_app (T : String) (f : D → List D → Option (D × D)) (φ : M AV) (ψ : M (List AV)) (ρ : Env) : mMut T f φ ψ ρ = (φ.bnd fun a => (rd (stab a)).bnd fun d0 => if kindD d0 = T then ψ.bnd fun avs => (frzAll avs).bnd fun ds => mutAt f (stab a) ds else M.stuck) ρ := rfl
@[simp] theorem kindD_str (s : Str) : kindD (.str s) = "str" := rfl
@[simp] theorem kindD_lst (s : List D) : kindD (.lst s) = "list" := rfl
@[simp] theorem kindD_dct (s : List (D × D)) : kindD (.dct s) = "dict" := rfl
@[simp] theorem mRc_app (m : Md) (φ : M AV) (ψ : M (List AV)) (ρ : Env) : mRc m φ ψ ρ = (φ.bnd fun a => (modeM m a).bnd fun a => ψ.bnd fun r => M.ret (a :: r)) ρ := rfl
@[simp] theorem mode_fz (a : AV) (ρ : Env) : modeM .fz a ρ = ((frz a).bnd fun d => M.ret (.fz d)) ρ := rfl
@[simp] theorem mode_keep (a : AV) (ρ : Env) : modeM .keep a ρ = .ok a ρ := rfl
@[simp] theorem mode_us (i : Nat) (ρ : Env) : modeM .unsl (.sl i) ρ = ((frz (.sl i)).bnd fun d => M.ret (.fz d)) ρ := rfl
@[simp] theorem mode_uf (d : D) (ρ : Env) : modeM .unsl (.fz d) ρ = .ok (.fz d) ρ := rfl
@[simp] theorem mode_uo (d : D) (ρ : Env) : modeM .unsl (.ow d) ρ = .ok (.ow d) ρ := rfl
@[simp] theorem mPar_app (is : List Nat) (φ : M (List AV)) (ρ : Env) : mPar is φ ρ = (φ.bnd fun avs => (mAsgs is avs).bnd fun _ => M.ret .nx) ρ := rfl
@[simp] theorem mAsgs_nil (ρ : Env) : mAsgs [] [] ρ = .ok () ρ := rfl
@[simp] theorem mAsgs_fz (i : Nat) (is : List Nat) (d : D) (as : List AV) (ρ : Env) : mAsgs (i :: is) (.fz d :: as) ρ = ((asg i (.fz d)).bnd fun _ => mAsgs is as) ρ := rfl
@[simp] theorem mAsgs_ow (i : Nat) (is : List Nat) (d : D) (as : List AV) (ρ : Env) : mAsgs (i :: is) (.ow d :: as) ρ = ((asg i (.ow d)).bnd fun _ => mAsgs is as) ρ := rfl
@[simp] theorem mCallF_app (n : Nat) (f : Fn) (φ : M (List AV)) (ρ : Env) : mCallF n f φ ρ = (φ.bnd fun avs => mFn n f avs) ρ := rfl
@[simp] theorem argOf_fz (ρ : Env) (d : D) : argOf ρ (.fz d) = some (.fz d, none) := rfl
@[simp] theorem argOf_ow (ρ : Env) (d : D) : argOf ρ (.ow d) = some (.bo d, some none) := rfl
@[simp] theorem argOf_sl (ρ : Env) (i : Nat) : argOf ρ (.sl i) = match ρ[i]? with
    | some (.fz d) => some (.fz d, none)
    | some (.ow d) => some (.bo d, some (some i))
    | some (.bo d) => some (.bo d, some (some i))
    | _ => none := rfl
@[simp] theorem argsOf_nil (ρ : Env) : argsOf ρ [] = some ([], []) := rfl
@[simp] theorem argsOf_cons (ρ : Env) (a : AV) (r : List AV) : argsOf ρ (a :: r) = match argOf ρ a, argsOf ρ r with
    | some (s, none), some (ks, is) => some (s :: ks, is)
    | some (s, some none), some (ks, is) => some (s :: ks, none :: is)
    | some (s, some (some i)), some (ks, is) => if some i ∈ is then none else some (s :: ks, some i :: is)
    | _, _ => none := rfl
@[simp] theorem mFn_app (n : Nat) (f : Fn) (avs : List AV) (ρ : Env) : mFn n f avs ρ = if avs.length = n then match argsOf ρ avs with
  | none => .no
  | some (ks, is) => match f ks with
    | .ok own d bs => .ok (if own then .ow d else .fz d) (putB is bs ρ)
    | .ex e bs => .ex e (putB is bs ρ)
    | .no => .no
  else .no := by
  unfold mFn
  split <;> rfl
@[simp] theorem putB_nil (ds : List D) (ρ : Env) : putB [] ds ρ = ρ := by cases ds <;> rfl
@[simp] theorem putB_some (i : Nat) (is : List (Option Nat)) (d : D) (ds : List D) (ρ : Env) : putB (some i :: is) (d :: ds) ρ = putB is ds (ρ.set i (((ρ[i]?).getD .un).put d)) := rfl
@[simp] theorem putB_none (is : List (Option Nat)) (d : D) (ds : List D) (ρ : Env) : putB (none :: is) (d :: ds) ρ = putB is ds ρ := rfl
@[simp] theorem isNon_non : isNon .non = true := rfl
@[simp] theorem isNon_str (s : Str) : isNon (.str s) = false := rfl
@[simp] theorem isNon_tup (s : List D) : isNon (.tup s) = false := rfl
@[simp] theorem keyOf_str (s : Str) : keyOf (.str s) = some (.inr s) := rfl
@[simp] theorem keyOf_int (s : Int) : keyOf (.int s) = some (.inl s) := rfl
@[simp] theorem opIs_non (d : D) : opIs d .non = some (.fz (.bl (isNon d))) := rfl
@[simp] theorem opIsNot_non (d : D) : opIsNot d .non = some (.fz (.bl (!isNon d))) := rfl
@[simp] theorem opIn_dct (x : Str) (kvs : List (D × D)) : opIn (.str x) (.dct kvs) = some (.fz (.bl (getK kvs (.inr x)).isSome)) := rfl
@[simp] theorem opNotIn_dct (x : Str) (kvs : List (D × D)) : opNotIn (.str x) (.dct kvs) = some (.fz (.bl !(getK kvs (.inr x)).isSome)) := rfl
@[simp] theorem ix_dctS (kvs : List (D × D)) (x : Str) : ixD (.dct kvs) (.str x) = (getK kvs (.inr x)).map .fz := by
  show ((keyOf (.str x)).bind fun x => (getK kvs x).map AV.fz) = _
  rfl
@[simp] theorem setD_dct (kvs : List (D × D)) (x : Str) (v : D) : setD (.dct kvs) (.str x) v = if kvs.length < sizeLine then some (.dct (putD kvs (.str x) v)) else none := by
  unfold setD
  simp
@[simp] theorem opAdd_str (a c : Str) : opAdd (.str a) (.str c) = if a.length + c.length ≤ sizeLine then some (.fz (.str (a ++ c))) else none := rfl
@[simp] theorem opAdd_int (a c : Int) : opAdd (.int a) (.int c) = some (.fz (.int (a + c))) := rfl
@[simp] theorem eqD_strs (a c : Str) (n : Nat) : eqD (.str a) n (.str c) = some (decide (a = c)) := by
  unfold eqD
  by_cases h : a = c
  · subst h; simp [fl, eqV]
  · simp [fl, eqV, h]
@[simp] theorem opEq_str (a c : Str) : opEq (.str a) (.str c) = some (.fz (.bl (decide (a = c)))) := by simp [opEq]
@[simp] theorem opNe_str (a c : Str) : opNe (.str a) (.str c) = some (.fz (.bl !(decide (a = c)))) := by simp [opNe]
theorem bnd_ok {α β : Type} {m : M α} {f : α → M β} {ρ ρ' : Env} {a : α} (h : m ρ = .ok a ρ') : m.bnd f ρ = f a ρ' := by rw [bnd_app, h]
theorem seq_nx {φ ψ : M Ctl} {ρ ρ' : Env} (h : φ ρ = .ok .nx ρ') : mSeq φ ψ ρ = ψ ρ' := by unfold mSeq; rw [bnd_ok h]
theorem seq_rt {φ ψ : M Ctl} {ρ ρ' : Env} {a : AV} (h : φ ρ = .ok (.rt a) ρ') : mSeq φ ψ ρ = .ok (.rt a) ρ' := by unfold mSeq; rw [bnd_ok h]; rfl
theorem seq_ex {φ ψ : M Ctl} {ρ ρ' : Env} {e : Exn} (h : φ ρ = .ex e ρ') : mSeq φ ψ ρ = .ex e ρ' := by unfold mSeq; rw [bnd_app, h]
theorem if_t {α : Type} {t : M Bool} {φ ψ : M α} {ρ ρ' : Env} (h : t ρ = .ok true ρ') : mIf t φ ψ ρ = φ ρ' := by unfold mIf; rw [bnd_ok h]; rfl
theorem if_f {α : Type} {t : M Bool} {φ ψ : M α} {ρ ρ' : Env} (h : t ρ = .ok false ρ') : mIf t φ ψ ρ = ψ ρ' := by unfold mIf; rw [bnd_ok h]; rfl
/-- a loop all of whose turns end well -/
theorem loop_inv {t : Tg} {body : M Ctl} (I : Env → Prop) : ∀ (ds : List D) (ρ : Env), I ρ → (∀ d ∈ ds, ∀ ρ, I ρ → ∃ ρ1 ρ2, bindT t d ρ = .ok () ρ1 ∧ (body ρ1 = .ok .nx ρ2 ∨ body ρ1 = .ok .ct ρ2) ∧ I ρ2) → ∃ ρ', loopF t body ds ρ = .ok .nx ρ' ∧ I ρ'
  | [], ρ, h, _ => ⟨ρ, rfl, h⟩
  | d :: ds, ρ, h, hb => by
    obtain ⟨ρ1, ρ2, h1, h2, h3⟩ := hb d List.mem_cons_self ρ h
    obtain ⟨ρ', h4, h5⟩ := loop_inv I ds ρ2 h3 fun d hd => hb d (List.mem_cons_of_mem _ hd)
    refine ⟨ρ', ?_, h5⟩
    unfold loopF
    rw [bnd_ok h1]
    rcases h2 with h2 | h2 <;> simp only [h2] <;> exact h4
/-- .. with a state that is carried along -/
theorem loop_acc {t : Tg} {body : M Ctl} {α : Type} (I : α → Env → Prop) (f : α → D → α) : ∀ (ds : List D) (a : α) (ρ : Env), I a ρ → (∀ d ∈ ds, ∀ a ρ, I a ρ → ∃ ρ1 ρ2, bindT t d ρ = .ok () ρ1 ∧ (body ρ1 = .ok .nx ρ2 ∨ body ρ1 = .ok .ct ρ2) ∧ I (f a d) ρ2) → ∃ ρ', loopF t body ds ρ = .ok .nx ρ' ∧ I (ds.foldl f a) ρ'
  | [], a, ρ, h, _ => ⟨ρ, rfl, h⟩
  | d :: ds, a, ρ, h, hb => by
    obtain ⟨ρ1, ρ2, h1, h2, h3⟩ := hb d List.mem_cons_self a ρ h
    obtain ⟨ρ', h4, h5⟩ := loop_acc I f ds _ ρ2 h3 fun d hd => hb d (List.mem_cons_of_mem _ hd)
    refine ⟨ρ', ?_, h5⟩
    unfold loopF
    rw [bnd_ok h1]
    rcases h2 with h2 | h2 <;> simp only [h2] <;> exact h4
theorem for_run {items : M (List D)} {t : Tg} {body : M Ctl} {ρ ρ' : Env} {ds : List D} (h : items ρ = .ok ds ρ') : mFor items t body ρ = loopF t body ds ρ' := by unfold mFor; rw [bnd_ok h]
end DL

namespace DL
open PySem L2
/-! ### dicts by their keys -/
def hasK (kvs : List (D × D)) (x : Key) : Bool := kvs.any fun p => decide (keyOf p.1 = some x)
theorem hasK_iff {x : Key} : ∀ {kvs : List (D × D)}, hasK kvs x = (getK kvs x).isSome
  | [] => rfl
  | (k, d) :: r => by
    unfold hasK getK
    rw [List.any_cons]
    by_cases h : keyOf k = some x
    · rw [if_pos h, decide_eq_true (by exact h)]; rfl
    · rw [if_neg h, decide_eq_false (by exact h)]; exact hasK_iff (kvs := r)
theorem getK_cons {x : Key} {k d : D} {r : List (D × D)} : getK ((k, d) :: r) x = if keyOf k = some x then some d else getK r x := rfl
theorem getK_append {x : Key} : ∀ {a c : List (D × D)}, getK (a ++ c) x = (getK a x).or (getK c x)
  | [], c => by
    show getK c x = (none : Option D).or (getK c x)
    cases getK c x <;> rfl
  | (k, d) :: r, c => by
    show getK ((k, d) :: (r ++ c)) x = _
    rw [getK_cons, getK_cons]
    by_cases h : keyOf k = some x
    · rw [if_pos h, if_pos h]; rfl
    · rw [if_neg h, if_neg h]; exact getK_append
theorem getK_map {x kk : Key} {k v : D} (e : keyOf k = some kk) : ∀ {kvs : List (D × D)}, getK (kvs.map fun p => if keyOf p.1 = keyOf k then (p.1, v) else p) x = if kk = x then (if hasK kvs x then some v else none) else getK kvs x
  | [] => by
    show none = _
    by_cases h : kk = x
    · rw [if_pos h]; rfl
    · rw [if_neg h]; rfl
  | (c, d) :: r => by
    rw [List.map_cons]
    have ih := getK_map e (v := v) (x := x) (kvs := r)
    rw [e] at ih ⊢
    by_cases h : keyOf c = some kk
    · rw [if_pos (by exact h)]
      unfold getK
      by_cases hx : kk = x
      · subst hx
        rw [if_pos h, if_pos rfl]
        unfold hasK
        rw [List.any_cons, decide_eq_true (by exact h)]
        rfl
      · have h' : ¬ keyOf c = some x := by rw [h]; exact fun q => hx (Option.some.inj q)
        rw [if_neg h', if_neg h', ih, if_neg hx, if_neg hx]
    · rw [if_neg (by exact h)]
      unfold getK
      by_cases hc : keyOf c = some x
      · have hx : ¬ kk = x := fun q => h (by rw [q]; exact hc)
        rw [if_pos hc, if_pos hc, if_neg hx]
      · rw [if_neg hc, if_neg hc, ih]
        by_cases hx : kk = x
        · rw [if_pos hx, if_pos hx]
          unfold hasK
          rw [List.any_cons, decide_eq_false (by exact hc), Bool.false_or]
        · rw [if_neg hx, if_neg hx]
theorem getK_put {x kk : Key} {k v : D} {kvs : List (D × D)} (e : keyOf k = some kk) : getK (putD kvs k v) x = if kk = x then some v else getK kvs x := by
  unfold putD
  have eh : (kvs.any fun p => decide (keyOf p.1 = keyOf k)) = hasK kvs kk := by unfold hasK; rw [e]
  rw [eh]
  by_cases h : hasK kvs kk = true
  · rw [if_pos h, getK_map e]
    by_cases hx : kk = x
    · subst hx; rw [if_pos rfl, if_pos rfl, if_pos h]
    · rw [if_neg hx, if_neg hx]
  · rw [if_neg h, getK_append]
    have hn : getK kvs kk = none := by
      rw [hasK_iff] at h
      cases q : getK kvs kk with
      | none => rfl
      | some y => rw [q] at h; exact absurd rfl h
    by_cases hx : kk = x
    · subst hx
      rw [if_pos rfl, hn]
      unfold getK
      rw [if_pos e]; rfl
    · rw [if_neg hx]
      have : getK [(k, v)] x = none := by
        unfold getK
        rw [if_neg (by rw [e]; exact fun q => hx (Option.some.inj q))]
        rfl
      rw [this, Option.or_none]
theorem len_put {kk : Key} {k v : D} {kvs : List (D × D)} (e : keyOf k = some kk) : (putD kvs k v).length = if (getK kvs kk).isSome then kvs.length else kvs.length + 1 := by
  unfold putD
  have eh : (kvs.any fun p => decide (keyOf p.1 = keyOf k)) = hasK kvs kk := by unfold hasK; rw [e]
  rw [eh, hasK_iff]
  split
  · rw [List.length_map]
  · rw [List.length_append]; rfl
@[simp] theorem getK_putS {x y : Str} {v : D} {kvs : List (D × D)} : getK (putD kvs (.str y) v) (.inr x) = if y = x then some v else getK kvs (.inr x) := by
  rw [getK_put (kk := .inr y) rfl]
  by_cases h : y = x
  · subst h; simp
  · rw [if_neg (fun q => h (Sum.inr.inj q)), if_neg h]
/-! ### lists -/
theorem seqI_last {n : Nat} (h : 0 < n) : ixN n (-1) = some (n - 1) := by
  unfold ixN
  simp
  omega
@[simp] theorem ix_last (l : List D) (x : D) : ixD (.lst (l ++ [x])) (.int (-1)) = some (.fz x) := by
  unfold ixD
  show ((atI (l ++ [x]) (-1)).map AV.fz) = _
  unfold atI
  rw [seqI_last (by simp)]
  simp
@[simp] theorem unNeg_int (i : Int) : unNeg (.int i) = some (.fz (.int (-i))) := rfl
@[simp] theorem opNe_nil (l : List D) : opNe (.lst l) (.lst []) = some (.fz (.bl !l.isEmpty)) := by
  unfold opNe eqD
  cases l with
  | nil => simp [eqL]
  | cons a r => simp
@[simp] theorem lAppend_app (l : List D) (x : D) : lAppend (.lst l) [x] = if l.length < sizeLine then some (.lst (l ++ [x]), .non) else none := rfl
@[simp] theorem lPop_last (l : List D) (x : D) : lPop (.lst (l ++ [x])) [] = some (.lst l, x) := by
  unfold lPop
  simp
/-! ### dict displays -/
@[simp] theorem mDisp_app (l : List (M AV × M AV)) (ρ : Env) : mDisp l ρ = ((mPairs l).bnd fun ps => if (ps.all fun p => (keyOf p.1).isSome) = true ∧ ps.length ≤ 15 then M.ret (.ow (.dct (mergeD [] ps))) else M.stuck) ρ := rfl
@[simp] theorem mPairs_nil (ρ : Env) : mPairs [] ρ = .ok [] ρ := rfl
@[simp] theorem mPairs_cons (φ ψ : M AV) (r : List (M AV × M AV)) (ρ : Env) : mPairs ((φ, ψ) :: r) ρ = (φ.bnd fun a => (frz a).bnd fun k => ψ.bnd fun c => (frz c).bnd fun v => (mPairs r).bnd fun l => M.ret ((k, v) :: l)) ρ := rfl
@[simp] theorem mergeD_nil (a : List (D × D)) : mergeD a [] = a := rfl
@[simp] theorem mergeD_cons (a : List (D × D)) (k v : D) (r : List (D × D)) : mergeD a ((k, v) :: r) = mergeD (putD a k v) r := rfl
@[simp] theorem putD_nil (k v : D) : putD [] k v = [(k, v)] := rfl
theorem sl_line (n : Nat) (h : n ≤ 16777216) : n ≤ sizeLine := by rw [sizeLine_eq]; exact h
theorem while_t {t : M Bool} {b : M Ctl} {n : Nat} {ρ ρ1 ρ2 : Env} (h1 : t ρ = .ok true ρ1) (h2 : b ρ1 = .ok .nx ρ2) : mWhile t b (n + 1) ρ = mWhile t b n ρ2 := by
  rw [mWhile, bnd_ok h1]
  simp only [if_true, h2]
theorem while_f {t : M Bool} {b : M Ctl} {n : Nat} {ρ ρ1 : Env} (h1 : t ρ = .ok false ρ1) : mWhile t b (n + 1) ρ = .ok .nx ρ1 := by
  rw [mWhile, bnd_ok h1]
  rfl
/-- a loop by the turn's number -/
theorem loop_from {t : Tg} {body : M Ctl} (I : Nat → Env → Prop) : ∀ (ds : List D) (n : Nat) (ρ : Env), I n ρ → (∀ (i : Nat) (d : D), ds[i]? = some d → ∀ ρ, I (n + i) ρ → ∃ ρ1 ρ2, bindT t d ρ = .ok () ρ1 ∧ (body ρ1 = .ok .nx ρ2 ∨ body ρ1 = .ok .ct ρ2) ∧ I (n + i + 1) ρ2) → ∃ ρ', loopF t body ds ρ = .ok .nx ρ' ∧ I (n + ds.length) ρ'
  | [], n, ρ, h, _ => ⟨ρ, rfl, h⟩
  | d :: ds, n, ρ, h, hb => by
    obtain ⟨ρ1, ρ2, h1, h2, h3⟩ := hb 0 d rfl ρ h
    obtain ⟨ρ', h4, h5⟩ := loop_from I ds (n + 1) ρ2 h3 fun i d hd ρ hI => by
      have e : n + 1 + i = n + (i + 1) := by omega
      rw [e] at hI ⊢
      exact hb (i + 1) d hd ρ hI
    refine ⟨ρ', ?_, by rw [List.length_cons]; have e : n + (ds.length + 1) = n + 1 + ds.length := by omega
                       rw [e]; exact h5⟩
    unfold loopF
    rw [bnd_ok h1]
    rcases h2 with h2 | h2 <;> simp only [h2] <;> exact h4
theorem loop_ix {t : Tg} {body : M Ctl} (I : Nat → Env → Prop) (ds : List D) (ρ : Env) (h : I 0 ρ) (hb : ∀ (i : Nat) (d : D), ds[i]? = some d → ∀ ρ, I i ρ → ∃ ρ1 ρ2, bindT t d ρ = .ok () ρ1 ∧ (body ρ1 = .ok .nx ρ2 ∨ body ρ1 = .ok .ct ρ2) ∧ I (i + 1) ρ2) : ∃ ρ', loopF t body ds ρ = .ok .nx ρ' ∧ I ds.length ρ' := by
  obtain ⟨ρ', h1, h2⟩ := loop_from I ds 0 ρ h fun i d hd ρ hI => by
    rw [Nat.zero_add] at hI ⊢
    exact hb i d hd ρ hI
  rw [Nat.zero_add] at h2
  exact ⟨ρ', h1, h2⟩
@[simp] theorem bind_nm (i : Nat) (d : D) : bindT (.nm i) d = setFz i d := by unfold bindT; rfl
theorem putD_new {k v : D} {kk : Key} {kvs : List (D × D)} (e : keyOf k = some kk) (h : getK kvs kk = none) : putD kvs k v = kvs ++ [(k, v)] := by
  unfold putD
  have eh : (kvs.any fun p => decide (keyOf p.1 = keyOf k)) = hasK kvs kk := by unfold hasK; rw [e]
  rw [eh, hasK_iff, h]
  rfl
end DL

namespace DL
open PySem PySem.Spec PyProof.Rows L2
/-! ### DM3: comprehensions with one name -/
theorem wipe1 {i : Nat} {ρ ρ1 : Env} (h : wipeE [i] ρ = some ρ1) : ρ1 = ρ.set i .un ∧ ∃ s, ρ[i]? = some s ∧ isBo s = false := by
  unfold wipeE wipeE at h
  dsimp only at h
  cases e : ρ[i]? with
  | none => rw [e] at h; cases h
  | some s =>
    rw [e] at h
    cases s with
    | bo d => cases h
    | un => exact ⟨(Option.some.inj h).symm, _, rfl, rfl⟩
    | fz d => exact ⟨(Option.some.inj h).symm, _, rfl, rfl⟩
    | ow d => exact ⟨(Option.some.inj h).symm, _, rfl, rfl⟩
    | xn d => exact ⟨(Option.some.inj h).symm, _, rfl, rfl⟩
theorem wipe1_of {i : Nat} {ρ : Env} {s : Sl} (h : ρ[i]? = some s) (hb : isBo s = false) : wipeE [i] ρ = some (ρ.set i .un) := by
  unfold wipeE wipeE
  dsimp only
  rw [h]
  cases s with
  | bo d => cases hb
  | _ => rfl
/-- what is there again behind a block -/
def rsS : Sl → Sl
  | .fz d => .fz d
  | _ => .un
@[simp] theorem rsS_fz (d : D) : rsS (.fz d) = .fz d := rfl
@[simp] theorem rsS_ow (d : D) : rsS (.ow d) = .un := rfl
@[simp] theorem rsS_bo (d : D) : rsS (.bo d) = .un := rfl
@[simp] theorem rsS_un : rsS .un = .un := rfl
theorem rsS_bo' (s : Sl) : isBo (rsS s) = false := by cases s <;> rfl
theorem loopC_run {i : Nat} {τ : M Bool} {φ : M AV} {ρ0 ρ1 : Env} (hw : wipeE [i] ρ0 = some ρ1) {f : D → Option D} : ∀ (ds acc : List D),
    (∀ d ∈ ds, (f d = none → τ (ρ1.set i (.fz d)) = .ok false (ρ1.set i (.fz d))) ∧ ∀ x, f d = some x → τ (ρ1.set i (.fz d)) = .ok true (ρ1.set i (.fz d)) ∧ ∃ av, φ (ρ1.set i (.fz d)) = .ok av (ρ1.set i (.fz d)) ∧ frz av (ρ1.set i (.fz d)) = .ok x (ρ1.set i (.fz d))) →
    acc.length + ds.length ≤ 1000000 → loopC [i] (.nm i) τ φ ds acc ρ1 = .ok (acc ++ ds.filterMap f) ρ1
  | [], acc, _, _ => by
    rw [List.filterMap_nil, List.append_nil]
    rfl
  | d :: ds, acc, h, hl => by
    obtain ⟨rfl, s, e, hb⟩ := wipe1 hw
    have hi : i < ρ0.length := (List.getElem?_eq_some_iff.mp e).1
    have e1 : (ρ0.set i Sl.un)[i]? = some .un := List.getElem?_set_self hi
    have b1 : bindT (.nm i) d (ρ0.set i .un) = .ok () ((ρ0.set i .un).set i (.fz d)) := by
      rw [bind_nm, setFz_app, e1]
      rfl
    have w1 : wipeM [i] ((ρ0.set i .un).set i (.fz d)) = .ok () (ρ0.set i .un) := by
      unfold wipeM
      rw [wipe1_of (s := .fz d) (List.getElem?_set_self (by rw [List.length_set]; exact hi)) rfl]
      dsimp only
      rw [List.set_set, List.set_set]
    obtain ⟨h0, h1⟩ := h d List.mem_cons_self
    rw [List.length_cons] at hl
    unfold loopC
    rw [bnd_ok b1]
    cases ef : f d with
    | none =>
      rw [bnd_ok (h0 ef), List.filterMap_cons_none ef]
      show ((wipeM [i]).bnd _) _ = _
      rw [bnd_ok w1]
      exact loopC_run hw ds acc (fun d hd => h d (List.mem_cons_of_mem _ hd)) (by omega)
    | some x =>
      obtain ⟨t1, av, p1, p2⟩ := h1 x ef
      rw [bnd_ok t1, List.filterMap_cons_some ef]
      show (φ.bnd _) _ = _
      rw [bnd_ok p1, bnd_ok p2]
      have hz : acc.length < sizeLine := by have := sl_line 1000001 (by omega); omega
      show (if acc.length < sizeLine then (wipeM [i]).bnd fun _ => loopC [i] (.nm i) τ φ ds (acc ++ [x]) else M.stuck) _ = _
      rw [if_pos hz, bnd_ok w1, loopC_run hw ds (acc ++ [x]) (fun d hd => h d (List.mem_cons_of_mem _ hd)) (by rw [List.length_append, List.length_singleton]; omega), List.append_assoc]
      rfl
theorem comp_run {i : Nat} {ιs : M (List D)} {τ : M Bool} {φ : M AV} {ρ ρ0 : Env} {ds : List D} {s : Sl} (hi : ιs ρ = .ok ds ρ0) (e : ρ0[i]? = some s) (hb : isBo s = false) (f : D → Option D)
    (h : ∀ d ∈ ds, (f d = none → τ (ρ0.set i (.fz d)) = .ok false (ρ0.set i (.fz d))) ∧ ∀ x, f d = some x → τ (ρ0.set i (.fz d)) = .ok true (ρ0.set i (.fz d)) ∧ ∃ av, φ (ρ0.set i (.fz d)) = .ok av (ρ0.set i (.fz d)) ∧ frz av (ρ0.set i (.fz d)) = .ok x (ρ0.set i (.fz d)))
    (hl : ds.length ≤ 1000000) : mComp ιs [i] (.nm i) τ φ ρ = .ok (.ow (.lst (ds.filterMap f))) (ρ0.set i (rsS s)) := by
  unfold mComp
  rw [bnd_ok hi]
  have hw := wipe1_of e hb
  simp only [hw]
  have key := loopC_run (τ := τ) (φ := φ) hw ds [] (f := f) (fun d hd => by
    rw [List.set_set]
    exact h d hd) (by simpa using hl)
  simp only [key]
  rw [List.nil_append]
  unfold restE restE
  rw [e, List.set_set]
  cases s <;> rfl
/-- no test -/
theorem comp_map {i : Nat} {ιs : M (List D)} {φ : M AV} {ρ ρ0 : Env} {ds : List D} {s : Sl} (hi : ιs ρ = .ok ds ρ0) (e : ρ0[i]? = some s) (hb : isBo s = false) (f : D → D)
    (h : ∀ d ∈ ds, ∃ av, φ (ρ0.set i (.fz d)) = .ok av (ρ0.set i (.fz d)) ∧ frz av (ρ0.set i (.fz d)) = .ok (f d) (ρ0.set i (.fz d)))
    (hl : ds.length ≤ 1000000) : mComp ιs [i] (.nm i) (M.ret true) φ ρ = .ok (.ow (.lst (ds.map f))) (ρ0.set i (rsS s)) := by
  rw [← List.filterMap_eq_map]
  exact comp_run hi e hb (some ∘ f) (fun d hd => ⟨fun q => (by cases q), fun x q => (by cases q; exact ⟨rfl, h d hd⟩)⟩) hl
theorem loop_cons {t : Tg} {body : M Ctl} {d : D} {ds : List D} {ρ ρ1 ρ2 : Env} (h1 : bindT t d ρ = .ok () ρ1) (h2 : body ρ1 = .ok .nx ρ2 ∨ body ρ1 = .ok .ct ρ2) : loopF t body (d :: ds) ρ = loopF t body ds ρ2 := by
  conv => lhs; unfold loopF
  rw [bnd_ok h1]
  rcases h2 with h2 | h2 <;> simp only [h2]
theorem loop_nil {t : Tg} {body : M Ctl} {ρ : Env} : loopF t body [] ρ = .ok .nx ρ := rfl
theorem range1_run (m : Nat) (h : m ≤ 1000000) (ρ : Env) : range1 [.int (m : Int)] ρ = .ok (rangeD 0 m) ρ := by
  have h62 : (m : Int) < 2 ^ 62 := by
    have : (1000001 : Int) ≤ 2 ^ 62 := by decide
    omega
  unfold range1
  simp only [Int.toNat_natCast]
  rw [if_pos (by omega)]
  rfl
section
variable {N : Nat} {φ : M Ctl} {ks : List Sl} {d : D} {ρ' : Env} {i : Nat} {e : Exn}
theorem runB_fz (h : φ (ks ++ List.replicate (N - ks.length) .un) = .ok (.rt (.fz d)) ρ') : runB N φ ks = .ok false d (bosF ks ρ') := by unfold runB; rw [h]
theorem runB_ow (h : φ (ks ++ List.replicate (N - ks.length) .un) = .ok (.rt (.ow d)) ρ') : runB N φ ks = .ok true d (bosF ks ρ') := by unfold runB; rw [h]
theorem runB_nx (h : φ (ks ++ List.replicate (N - ks.length) .un) = .ok .nx ρ') : runB N φ ks = .ok false .non (bosF ks ρ') := by unfold runB; rw [h]
theorem runB_ex (h : φ (ks ++ List.replicate (N - ks.length) .un) = .ex e ρ') : runB N φ ks = .ex e (bosF ks ρ') := by unfold runB; rw [h]
theorem runB_sf (h : φ (ks ++ List.replicate (N - ks.length) .un) = .ok (.rt (.sl i)) ρ') (h2 : ρ'[i]? = some (.fz d)) : runB N φ ks = .ok false d (bosF ks ρ') := by unfold runB; rw [h]; simp only [h2]
theorem runB_so (h : φ (ks ++ List.replicate (N - ks.length) .un) = .ok (.rt (.sl i)) ρ') (h2 : ρ'[i]? = some (.ow d)) : runB N φ ks = .ok true d (bosF ks ρ') := by unfold runB; rw [h]; simp only [h2]
end
theorem bosF_no : ∀ (ks : List Sl) (ρ : DL.Env), (ks.all fun s => !isBo s) = true → bosF ks ρ = []
  | [], ρ, _ => by cases ρ <;> rfl
  | s :: ks, [], h => by cases s <;> rfl
  | s :: ks, t :: ρ, h => by
    rw [List.all_cons, Bool.and_eq_true] at h
    have ih := bosF_no ks ρ h.2
    cases s with
    | bo d => cases h.1
    | un => exact ih
    | fz d => exact ih
    | ow d => exact ih
    | xn d => exact ih
end DL

namespace DL
open PySem PySem.Spec PyProof.Rows L2
/-! ### DM4: comprehensions with any target -/
theorem wipeM_of {own : List Nat} {ρ ρ' : Env} (h : wipeE own ρ = some ρ') : wipeM own ρ = .ok () ρ' := by
  unfold wipeM
  rw [h]
theorem loopC_gen {own : List Nat} {t : Tg} {τ : M Bool} {φ : M AV} {ρ1 : Env} {f : D → Option D} : ∀ (ds acc : List D),
    (∀ d ∈ ds, ∃ ρd, bindT t d ρ1 = .ok () ρd ∧ wipeE own ρd = some ρ1 ∧ (f d = none → τ ρd = .ok false ρd) ∧ ∀ x, f d = some x → τ ρd = .ok true ρd ∧ ∃ av, φ ρd = .ok av ρd ∧ frz av ρd = .ok x ρd) →
    acc.length + ds.length ≤ 1000000 → loopC own t τ φ ds acc ρ1 = .ok (acc ++ ds.filterMap f) ρ1
  | [], acc, _, _ => by
    rw [List.filterMap_nil, List.append_nil]
    rfl
  | d :: ds, acc, h, hl => by
    rw [List.length_cons] at hl
    obtain ⟨ρd, b1, w, h0, h1⟩ := h d List.mem_cons_self
    unfold loopC
    rw [bnd_ok b1]
    cases ef : f d with
    | none =>
      rw [bnd_ok (h0 ef), List.filterMap_cons_none ef]
      show ((wipeM own).bnd _) _ = _
      rw [bnd_ok (wipeM_of w)]
      exact loopC_gen ds acc (fun d hd => h d (List.mem_cons_of_mem _ hd)) (by omega)
    | some x =>
      obtain ⟨t1, av, p1, p2⟩ := h1 x ef
      rw [bnd_ok t1, List.filterMap_cons_some ef]
      show (φ.bnd _) _ = _
      rw [bnd_ok p1, bnd_ok p2]
      have hz : acc.length < sizeLine := by have := sl_line 1000001 (by omega); omega
      show (if acc.length < sizeLine then (wipeM own).bnd fun _ => loopC own t τ φ ds (acc ++ [x]) else M.stuck) _ = _
      rw [if_pos hz, bnd_ok (wipeM_of w), loopC_gen ds (acc ++ [x]) (fun d hd => h d (List.mem_cons_of_mem _ hd)) (by rw [List.length_append, List.length_singleton]; omega), List.append_assoc]
      rfl
theorem comp_gen {own : List Nat} {ιs : M (List D)} {t : Tg} {τ : M Bool} {φ : M AV} {ρ ρ0 ρ1 : Env} {ds : List D} (hi : ιs ρ = .ok ds ρ0) (hw : wipeE own ρ0 = some ρ1) (f : D → Option D)
    (h : ∀ d ∈ ds, ∃ ρd, bindT t d ρ1 = .ok () ρd ∧ wipeE own ρd = some ρ1 ∧ (f d = none → τ ρd = .ok false ρd) ∧ ∀ x, f d = some x → τ ρd = .ok true ρd ∧ ∃ av, φ ρd = .ok av ρd ∧ frz av ρd = .ok x ρd)
    (hl : ds.length ≤ 1000000) : mComp ιs own t τ φ ρ = .ok (.ow (.lst (ds.filterMap f))) (restE own ρ0 ρ1) := by
  unfold mComp
  rw [bnd_ok hi]
  simp only [hw]
  have key := loopC_gen (own := own) (t := t) (τ := τ) (φ := φ) (ρ1 := ρ1) (f := f) ds [] h (by simpa using hl)
  simp only [key]
  rw [List.nil_append]
/-- .. for dicts -/
def stepD (f : D → Option (D × D)) (acc : List (D × D)) (d : D) : List (D × D) := match f d with
  | some (k, v) => putD acc k v
  | none => acc
theorem putD_len {kvs : List (D × D)} {k v : D} : (putD kvs k v).length ≤ kvs.length + 1 := by
  unfold putD
  split
  · rw [List.length_map]; omega
  · rw [List.length_append, List.length_singleton]; exact Nat.le_refl _
theorem loopD_gen {own : List Nat} {t : Tg} {τ : M Bool} {φ ψ : M AV} {ρ1 : Env} {f : D → Option (D × D)} : ∀ (ds : List D) (acc : List (D × D)),
    (∀ d ∈ ds, ∃ ρd, bindT t d ρ1 = .ok () ρd ∧ wipeE own ρd = some ρ1 ∧ (f d = none → τ ρd = .ok false ρd) ∧ ∀ k v, f d = some (k, v) → (keyOf k).isSome = true ∧ τ ρd = .ok true ρd ∧ ∃ av aw, φ ρd = .ok av ρd ∧ frz av ρd = .ok k ρd ∧ ψ ρd = .ok aw ρd ∧ frz aw ρd = .ok v ρd) →
    acc.length + ds.length ≤ 1000000 → loopD own t τ φ ψ ds acc ρ1 = .ok (ds.foldl (stepD f) acc) ρ1
  | [], acc, _, _ => rfl
  | d :: ds, acc, h, hl => by
    rw [List.length_cons] at hl
    obtain ⟨ρd, b1, w, h0, h1⟩ := h d List.mem_cons_self
    unfold loopD
    rw [bnd_ok b1, List.foldl_cons]
    cases ef : f d with
    | none =>
      rw [bnd_ok (h0 ef)]
      show ((wipeM own).bnd _) _ = _
      rw [bnd_ok (wipeM_of w), loopD_gen ds acc (fun d hd => h d (List.mem_cons_of_mem _ hd)) (by omega)]
      unfold stepD
      rw [ef]
    | some p =>
      obtain ⟨k, v⟩ := p
      obtain ⟨hk, t1, av, aw, p1, p2, p3, p4⟩ := h1 k v ef
      rw [bnd_ok t1]
      show (φ.bnd _) _ = _
      rw [bnd_ok p1, bnd_ok p2, bnd_ok p3, bnd_ok p4]
      have hz : acc.length < sizeLine := by have := sl_line 1000001 (by omega); omega
      have pl := putD_len (kvs := acc) (k := k) (v := v)
      show (if acc.length < sizeLine ∧ (keyOf k).isSome = true then (wipeM own).bnd fun _ => loopD own t τ φ ψ ds (putD acc k v) else M.stuck) _ = _
      rw [if_pos ⟨hz, hk⟩, bnd_ok (wipeM_of w), loopD_gen ds (putD acc k v) (fun d hd => h d (List.mem_cons_of_mem _ hd)) (by omega)]
      unfold stepD
      rw [ef]
theorem dcomp_gen {own : List Nat} {ιs : M (List D)} {t : Tg} {τ : M Bool} {φ ψ : M AV} {ρ ρ0 ρ1 : Env} {ds : List D} (hi : ιs ρ = .ok ds ρ0) (hw : wipeE own ρ0 = some ρ1) (f : D → Option (D × D))
    (h : ∀ d ∈ ds, ∃ ρd, bindT t d ρ1 = .ok () ρd ∧ wipeE own ρd = some ρ1 ∧ (f d = none → τ ρd = .ok false ρd) ∧ ∀ k v, f d = some (k, v) → (keyOf k).isSome = true ∧ τ ρd = .ok true ρd ∧ ∃ av aw, φ ρd = .ok av ρd ∧ frz av ρd = .ok k ρd ∧ ψ ρd = .ok aw ρd ∧ frz aw ρd = .ok v ρd)
    (hl : ds.length ≤ 1000000) : mDc ιs own t τ φ ψ ρ = .ok (.ow (.dct (ds.foldl (stepD f) []))) (restE own ρ0 ρ1) := by
  unfold mDc
  rw [bnd_ok hi]
  simp only [hw]
  have key := loopD_gen (own := own) (t := t) (τ := τ) (φ := φ) (ψ := ψ) (ρ1 := ρ1) (f := f) ds [] h (by simpa using hl)
  simp only [key]
/-- .. where the turns may change the ground -/
theorem loopD_I {own : List Nat} {t : Tg} {τ : M Bool} {φ ψ : M AV} {f : D → Option (D × D)} (I : Env → Prop) : ∀ (ds : List D) (acc : List (D × D)) (ρ1 : Env), I ρ1 →
    (∀ d ∈ ds, ∀ ρ1, I ρ1 → ∃ ρd, bindT t d ρ1 = .ok () ρd ∧ (f d = none → τ ρd = .ok false ρd ∧ ∃ ρ2, wipeE own ρd = some ρ2 ∧ I ρ2) ∧ ∀ k v, f d = some (k, v) → (keyOf k).isSome = true ∧ τ ρd = .ok true ρd ∧ ∃ av aw ρe ρ2, φ ρd = .ok av ρd ∧ frz av ρd = .ok k ρd ∧ ψ ρd = .ok aw ρe ∧ frz aw ρe = .ok v ρe ∧ wipeE own ρe = some ρ2 ∧ I ρ2) →
    acc.length + ds.length ≤ 1000000 → ∃ ρE, loopD own t τ φ ψ ds acc ρ1 = .ok (ds.foldl (stepD f) acc) ρE ∧ I ρE
  | [], acc, ρ1, h, _, _ => ⟨ρ1, rfl, h⟩
  | d :: ds, acc, ρ1, hI, h, hl => by
    rw [List.length_cons] at hl
    obtain ⟨ρd, b1, h0, h1⟩ := h d List.mem_cons_self ρ1 hI
    unfold loopD
    rw [bnd_ok b1, List.foldl_cons]
    cases ef : f d with
    | none =>
      obtain ⟨t0, ρ2, w, hI2⟩ := h0 ef
      obtain ⟨ρE, e, hE⟩ := loopD_I (own := own) (t := t) (τ := τ) (φ := φ) (ψ := ψ) (f := f) I ds acc ρ2 hI2 (fun d hd => h d (List.mem_cons_of_mem _ hd)) (by omega)
      refine ⟨ρE, ?_, hE⟩
      rw [bnd_ok t0]
      show ((wipeM own).bnd _) _ = _
      rw [bnd_ok (wipeM_of w), e]
      unfold stepD
      rw [ef]
    | some p =>
      obtain ⟨k, v⟩ := p
      obtain ⟨hk, t1, av, aw, ρe, ρ2, p1, p2, p3, p4, w, hI2⟩ := h1 k v ef
      have pl := putD_len (kvs := acc) (k := k) (v := v)
      obtain ⟨ρE, e, hE⟩ := loopD_I (own := own) (t := t) (τ := τ) (φ := φ) (ψ := ψ) (f := f) I ds (putD acc k v) ρ2 hI2 (fun d hd => h d (List.mem_cons_of_mem _ hd)) (by omega)
      refine ⟨ρE, ?_, hE⟩
      rw [bnd_ok t1]
      show (φ.bnd _) _ = _
      rw [bnd_ok p1, bnd_ok p2, bnd_ok p3, bnd_ok p4]
      have hz : acc.length < sizeLine := by have := sl_line 1000001 (by omega); omega
      show (if acc.length < sizeLine ∧ (keyOf k).isSome = true then (wipeM own).bnd fun _ => loopD own t τ φ ψ ds (putD acc k v) else M.stuck) _ = _
      rw [if_pos ⟨hz, hk⟩, bnd_ok (wipeM_of w), e]
      unfold stepD
      rw [ef]
theorem dcomp_I {own : List Nat} {ιs : M (List D)} {t : Tg} {τ : M Bool} {φ ψ : M AV} {ρ ρ0 ρ1 : Env} {ds : List D} (hi : ιs ρ = .ok ds ρ0) (hw : wipeE own ρ0 = some ρ1) (f : D → Option (D × D)) (I : Env → Prop) (hI : I ρ1)
    (h : ∀ d ∈ ds, ∀ ρ1, I ρ1 → ∃ ρd, bindT t d ρ1 = .ok () ρd ∧ (f d = none → τ ρd = .ok false ρd ∧ ∃ ρ2, wipeE own ρd = some ρ2 ∧ I ρ2) ∧ ∀ k v, f d = some (k, v) → (keyOf k).isSome = true ∧ τ ρd = .ok true ρd ∧ ∃ av aw ρe ρ2, φ ρd = .ok av ρd ∧ frz av ρd = .ok k ρd ∧ ψ ρd = .ok aw ρe ∧ frz aw ρe = .ok v ρe ∧ wipeE own ρe = some ρ2 ∧ I ρ2)
    (hl : ds.length ≤ 1000000) : ∃ ρE, mDc ιs own t τ φ ψ ρ = .ok (.ow (.dct (ds.foldl (stepD f) []))) (restE own ρ0 ρE) ∧ I ρE := by
  obtain ⟨ρE, key, hE⟩ := loopD_I (own := own) (t := t) (τ := τ) (φ := φ) (ψ := ψ) (f := f) I ds [] ρ1 hI h (by simpa using hl)
  refine ⟨ρE, ?_, hE⟩
  unfold mDc
  rw [bnd_ok hi]
  simp only [hw, key]
end DL

/-! printed by gen.py: mirrors and derivations -/
namespace LW
open PySem PySem.Spec PyProof.Rows L2 DL
def top (i : Nat) : Stmt := PySem.Challenge.pw_twolistings_k69_whole_cuts_at_any_charac.main.body.getD i (.Pass ⟨0, 0, 0, 0⟩)
def cbody (i j : Nat) : Stmt := match top i with
  | .ClassDef _ _ _ b _ _ _ _ _ _ _ => b.getD j (.Pass ⟨0, 0, 0, 0⟩)
  | _ => .Pass ⟨0, 0, 0, 0⟩
def k_MARKS : List (Str × D) := [("^", (.str "^1")), (";", (.str "^2")), (":", (.str "^3")), (",", (.str "^4"))]
def k_SIGNS : List (Str × D) := [("1", (.str "^")), ("2", (.str ";")), ("3", (.str ":")), ("4", (.str ","))]
def own_Archive : List (Str × Bool) := [("Archive", true)]
structure Hs (K : PySem.W.Frag) (mg : Str → Option Value) (w : World) (X : Cx) : Prop where
  K : X.K = K
  mg : X.mg = mg
  w : X.w = w
  n_abs : X.mg "abs" = none
  n_all : X.mg "all" = none
  n_bool : X.mg "bool" = none
  n_enumerate : X.mg "enumerate" = none
  n_int : X.mg "int" = none
  n_isinstance : X.mg "isinstance" = none
  n_len : X.mg "len" = none
  n_list : X.mg "list" = none
  n_max : X.mg "max" = none
  n_min : X.mg "min" = none
  n_range : X.mg "range" = none
  n_sorted : X.mg "sorted" = none
  n_str : X.mg "str" = none
  n_tuple : X.mg "tuple" = none
  n_zip : X.mg "zip" = none
  c_DIGITS : GloD X "DIGITS" (.str "0123456789")
  c_MOST_NAME : GloD X "MOST_NAME" (.int 60)
  c_MOST_PARTS : GloD X "MOST_PARTS" (.int 8)
  c_MOST_TEXT : GloD X "MOST_TEXT" (.int 200)
  f_Archive_headed : ClF X "Archive" "headed"
  f_Archive_kept_records : ClF X "Archive" "kept_records"
  i_Archive : ClK X "Archive" own_Archive
  k_MARKS : KdD X "MARKS" k_MARKS
  k_SIGNS : KdD X "SIGNS" k_SIGNS
theorem isi_bool {X : Cx} : IsiOk X (.type "bool") (isiB "bool") := isiB_ok "bool" (by decide +kernel)
theorem isi_int {X : Cx} : IsiOk X (.type "int") (isiB "int") := isiB_ok "int" (by decide +kernel)
theorem isi_list {X : Cx} : IsiOk X (.type "list") (isiB "list") := isiB_ok "list" (by decide +kernel)
theorem isi_str {X : Cx} : IsiOk X (.type "str") (isiB "str") := isiB_ok "str" (by decide +kernel)
theorem isi_tuple {X : Cx} : IsiOk X (.type "tuple") (isiB "tuple") := isiB_ok "tuple" (by decide +kernel)
theorem fitA {X : Cx} {b : Bs} {P : List (Addr × HO)} (h : Fit X b) : Fit X (b.add P) := ⟨h.K, h.mg⟩
theorem fitT {X : Cx} {b : Bs} {pn : List (Addr × Obj)} {xe : Value → Shared → Prop} (h : Fit X b) : Fit (X.tr pn xe) b := ⟨h.K, h.mg⟩
theorem fitS {X : Cx} {b : Bs} {pn : List (Addr × Obj)} {a : Addr} (h : Fit X b) : Fit (X.suite a pn) b := ⟨h.K, h.mg⟩
def s_law_feed_1 : M Ctl :=
  (mAsg 2 (mIf (mTest (mOp opLt (mVar 1) (mCall fLen (mCons (mVar 0) mNil)))) (mOp ixD (mVar 0) (mVar 1)) (mOp opAdd (mOp opMul (mC (.int 61)) (mVar 1)) (mC (.int 17)))))
def s_law_feed_2 : M Ctl :=
  (mAsg 3 (mCall fMax (mCons (mC (.int 0)) (mCons (mOp opSub (mCall fAbs (mCons (mVar 2) mNil)) (mOp opPow (mC (.int 10)) (mC (.int 18)))) mNil))))
def s_law_feed_3 : M Ctl :=
  (mAsg 4 (mOp opMod (mCall fInt (mCons (mOp opAdd (mOp opAdd (mOp opMul (mVar 2) (mC (.int 6364136223846793005))) (mOp opMul (mC (.int 7919)) (mVar 1))) (mC (.int 1442695040888963407))) mNil)) (mC (.int 2305843009213693951))))
def s_law_feed_4 : M Ctl :=
  (mRet (mLst (mCons (mVar 3) (mCons (mVar 4) mNil))))
def φ_law_feed : M Ctl :=
  (mSeq s_law_feed_1
   (mSeq s_law_feed_2
   (mSeq s_law_feed_3
   s_law_feed_4)))
def F_law_feed : Fn := runB 5 φ_law_feed
def s_law_take_2 : M Ctl :=
  (mAsg 2 (mOp opMod (mCall fInt (mCons (mOp ixD (mVar 0) (mC (.int 0))) mNil)) (mVar 1)))
def s_law_take_3 : M Ctl :=
  (mAsgM (mOp opDiv (mOp ixD (mVar 0) (mC (.int 0))) (mVar 1)) (gmSub (mVar 0) (mC (.int 0))))
def s_law_take_4 : M Ctl :=
  (mRet (mVar 2))
def s_law_take_1 : M Ctl :=
  (mIf (mTest (mOp opGt (mOp ixD (mVar 0) (mC (.int 0))) (mC (.int 0)))) (mSeq s_law_take_2
   (mSeq s_law_take_3
   s_law_take_4)) (M.ret .nx))
def s_law_take_5 : M Ctl :=
  (mAsgM (mOp opMod (mCall fInt (mCons (mOp opAdd (mOp opMul (mOp ixD (mVar 0) (mC (.int 1))) (mC (.int 6364136223846793005))) (mC (.int 1442695040888963407))) mNil)) (mC (.int 2305843009213693951))) (gmSub (mVar 0) (mC (.int 1))))
def s_law_take_6 : M Ctl :=
  (mRet (mOp opMod (mCall fInt (mCons (mOp opDiv (mOp ixD (mVar 0) (mC (.int 1))) (mC (.int 65536))) mNil)) (mVar 1)))
def φ_law_take : M Ctl :=
  (mSeq s_law_take_1
   (mSeq s_law_take_5
   s_law_take_6))
def F_law_take : Fn := runB 3 φ_law_take
def s_law_pick_1 : M Ctl :=
  (mRet (mOp ixD (mVar 1) (mCallF 2 F_law_take (mRc .keep (mVar 0) (mRc .fz (mCall fLen (mCons (mVar 1) mNil)) mNil)))))
def φ_law_pick : M Ctl :=
  s_law_pick_1
def F_law_pick : Fn := runB 2 φ_law_pick
def s_law_names_1 : M Ctl :=
  (mRet (mLst (mCons (mC (.str "a")) (mCons (mC (.str "b")) (mCons (mC (.str "b.d")) (mCons (mC (.str "b/c")) (mCons (mC (.str "d")) mNil)))))))
def φ_law_names : M Ctl :=
  s_law_names_1
def F_law_names : Fn := runB 0 φ_law_names
def s_law_thing_1 : M Ctl :=
  (mAsg 1 (mLst (mCons (mTup (mCons (mC (.str "folder")) mNil)) (mCons (mTup (mCons (mC (.str "file")) (mCons (mC (.str "")) mNil))) (mCons (mTup (mCons (mC (.str "file")) (mCons (mC (.str "text")) mNil))) (mCons (mTup (mCons (mC (.str "link")) (mCons (mC (.str "b")) mNil))) (mCons (mTup (mCons (mC (.str "link")) (mCons (mC (.str "d/e")) mNil))) (mCons (mTup (mCons (mC (.str "file")) (mCons (mC (.str "a;b:c^,d")) mNil))) mNil))))))))
def s_law_thing_2 : M Ctl :=
  (mRet (mCallF 2 F_law_pick (mRc .keep (mVar 0) (mRc .fz (mVar 1) mNil))))
def φ_law_thing : M Ctl :=
  (mSeq s_law_thing_1
   s_law_thing_2)
def F_law_thing : Fn := runB 2 φ_law_thing
def s_law_back_1 : M Ctl :=
  (mRet (mComp (mIt range1 (mCons (mOp opSub (mVar 1) (mC (.int 1))) mNil)) [3] (.nm 3) (mAnd (mTest (mOp opEq (mOp ixD (mOp ixD (mVar 0) (mVar 3)) (mC (.int 0))) (mC (.str "head")))) (mTest (mOp opEq (mOp ixD (mOp ixD (mVar 0) (mVar 3)) (mC (.int 1))) (mVar 2)))) (mOp opAdd (mVar 3) (mC (.int 1)))))
def φ_law_back : M Ctl :=
  s_law_back_1
def F_law_back : Fn := runB 4 φ_law_back
def s_law_items_1 : M Ctl :=
  (mPar [2, 3] (mRc .unsl (mOp opAdd (mCall fLen (mCons (mVar 1) mNil)) (mC (.int 1))) (mRc .unsl (mLst mNil) mNil)))
def s_law_items_3 : M Ctl :=
  (mAsg 5 (mCallF 3 F_law_back (mRc .keep (mVar 1) (mRc .fz (mVar 2) (mRc .fz (mVar 4) mNil)))))
def s_law_items_5 : M Ctl :=
  (mExpr (mMut "list" lAppend (mVar 3) (mCons (mTup (mCons (mVar 4) (mCons (mCallF 2 F_law_pick (mRc .keep (mVar 0) (mRc .fz (mOp opAdd (mLst (mCons (mC (.int 0)) mNil)) (mComp (mItems (mOp opAdd (mVar 5) (mSl (mVar 5) (some (mUn unNeg (mC (.int 1)))) none))) [6] (.nm 6) (M.ret true) (mOp opSub (mVar 2) (mVar 6)))) mNil))) mNil))) mNil)))
def s_law_items_4 : M Ctl :=
  (mIf (mAnd (mTest (mOp opNeX (mVar 5) (mLst mNil))) (mTest (mOp opGt (mCallF 2 F_law_take (mRc .keep (mVar 0) (mRc .fz (mC (.int 3)) mNil))) (mC (.int 0))))) s_law_items_5 (M.ret .nx))
def s_law_items_2 : M Ctl :=
  (mFor (mItems (mCall fSorted (mCons (mFn 0 F_law_names []) mNil))) (.nm 4) (mSeq s_law_items_3
   s_law_items_4))
def s_law_items_6 : M Ctl :=
  (mRet (mCall fTuple (mCons (mVar 3) mNil)))
def φ_law_items : M Ctl :=
  (mSeq s_law_items_1
   (mSeq s_law_items_2
   s_law_items_6))
def F_law_items : Fn := runB 7 φ_law_items
def s_law_record_1 : M Ctl :=
  (mPar [2, 3] (mRc .unsl (mCallF 2 F_law_take (mRc .keep (mVar 0) (mRc .fz (mC (.int 7)) mNil))) (mRc .unsl (mCallF 2 F_law_pick (mRc .keep (mVar 0) (mRc .fz (mFn 0 F_law_names []) mNil))) mNil)))
def s_law_record_3 : M Ctl :=
  (mRet (mTup (mCons (mC (.str "head")) (mCons (mVar 3) (mCons (mCallF 1 F_law_thing (mRc .keep (mVar 0) mNil)) mNil)))))
def s_law_record_2 : M Ctl :=
  (mIf (mTest (mOp opLt (mVar 2) (mC (.int 3)))) s_law_record_3 (M.ret .nx))
def s_law_record_4 : M Ctl :=
  (mRet (mIf (mTest (mOp opEq (mVar 2) (mC (.int 3)))) (mTup (mCons (mC (.str "strike")) (mCons (mVar 3) mNil))) (mTup (mCons (mC (.str "list")) (mCons (mCallF 2 F_law_items (mRc .keep (mVar 0) (mRc .keep (mVar 1) mNil))) mNil)))))
def φ_law_record : M Ctl :=
  (mSeq s_law_record_1
   (mSeq s_law_record_2
   s_law_record_4))
def F_law_record : Fn := runB 4 φ_law_record
def s_law_records_1 : M Ctl :=
  (mAsg 2 (mLst mNil))
def s_law_records_3 : M Ctl :=
  (mExpr (mMut "list" lAppend (mVar 2) (mCons (mCallF 2 F_law_record (mRc .keep (mVar 0) (mRc .keep (mVar 2) mNil))) mNil)))
def s_law_records_2 : M Ctl :=
  (mFor (mIt range1 (mCons (mVar 1) mNil)) (.nm 3) s_law_records_3)
def s_law_records_4 : M Ctl :=
  (mRet (mVar 2))
def φ_law_records : M Ctl :=
  (mSeq s_law_records_1
   (mSeq s_law_records_2
   s_law_records_4))
def F_law_records : Fn := runB 4 φ_law_records
def s_is_string_1 : M Ctl :=
  (mRet (mAndV (mIsi (isiB "str") (mVar 0)) (mAndV (mOp opLe (mCall fLen (mCons (mVar 0) mNil)) (mVar 1)) (mCall fAll (mCons (mComp (mItems (mVar 0)) [2] (.nm 2) (M.ret true) (mChain opLe opLe (mC (.str " ")) (mVar 2) (mC (.str "~")))) mNil)))))
def φ_is_string : M Ctl :=
  s_is_string_1
def F_is_string : Fn := runB 3 φ_is_string
def s_are_parts_1 : M Ctl :=
  (mAsg 1 (mRead "str" sSplit (mVar 0) (mCons (mC (.str "/")) mNil)))
def s_are_parts_2 : M Ctl :=
  (mRet (mAndV (mOp opLe (mCall fLen (mCons (mVar 1) mNil)) (mC (.int 8))) (mAndV (mOp opNotIn (mC (.str "")) (mVar 1)) (mAndV (mOp opNotIn (mC (.str ".")) (mVar 1)) (mOp opNotIn (mC (.str "..")) (mVar 1))))))
def φ_are_parts : M Ctl :=
  (mSeq s_are_parts_1
   s_are_parts_2)
def F_are_parts : Fn := runB 2 φ_are_parts
def s_is_name_1 : M Ctl :=
  (mRet (mAndV (mCallF 2 F_is_string (mRc .fz (mVar 0) (mRc .fz (mC (.int 60)) mNil))) (mCallF 1 F_are_parts (mRc .fz (mVar 0) mNil))))
def φ_is_name : M Ctl :=
  s_is_name_1
def F_is_name : Fn := runB 1 φ_is_name
def s_is_thing_2 : M Ctl :=
  (mRet (mC (.bl false)))
def s_is_thing_1 : M Ctl :=
  (mIf (mOr (mNot (mTest (mIsi (isiB "tuple") (mVar 0)))) (mOr (mTest (mOp opEq (mVar 0) (mTup mNil))) (mNot (mTest (mIsi (isiB "str") (mOp ixD (mVar 0) (mC (.int 0)))))))) s_is_thing_2 (M.ret .nx))
def s_is_thing_4 : M Ctl :=
  (mRet (mOp opEq (mCall fLen (mCons (mVar 0) mNil)) (mC (.int 1))))
def s_is_thing_3 : M Ctl :=
  (mIf (mTest (mOp opEq (mOp ixD (mVar 0) (mC (.int 0))) (mC (.str "folder")))) s_is_thing_4 (M.ret .nx))
def s_is_thing_6 : M Ctl :=
  (mRet (mC (.bl false)))
def s_is_thing_5 : M Ctl :=
  (mIf (mTest (mOp opNeX (mCall fLen (mCons (mVar 0) mNil)) (mC (.int 2)))) s_is_thing_6 (M.ret .nx))
def s_is_thing_8 : M Ctl :=
  (mRet (mCallF 2 F_is_string (mRc .fz (mOp ixD (mVar 0) (mC (.int 1))) (mRc .fz (mC (.int 200)) mNil))))
def s_is_thing_7 : M Ctl :=
  (mIf (mTest (mOp opEq (mOp ixD (mVar 0) (mC (.int 0))) (mC (.str "file")))) s_is_thing_8 (M.ret .nx))
def s_is_thing_9 : M Ctl :=
  (mRet (mAndV (mOp opEq (mOp ixD (mVar 0) (mC (.int 0))) (mC (.str "link"))) (mCallF 1 F_is_name (mRc .fz (mOp ixD (mVar 0) (mC (.int 1))) mNil))))
def φ_is_thing : M Ctl :=
  (mSeq s_is_thing_1
   (mSeq s_is_thing_3
   (mSeq s_is_thing_5
   (mSeq s_is_thing_7
   s_is_thing_9))))
def F_is_thing : Fn := runB 1 φ_is_thing
def s_is_integer_1 : M Ctl :=
  (mRet (mAndV (mIsi (isiB "int") (mVar 0)) (mNotV (mIsi (isiB "bool") (mVar 0)))))
def φ_is_integer : M Ctl :=
  s_is_integer_1
def F_is_integer : Fn := runB 1 φ_is_integer
def s_within_1 : M Ctl :=
  (mRet (mAndV (mCallF 1 F_is_integer (mRc .fz (mVar 0) mNil)) (mChain opLe opLe (mVar 1) (mVar 0) (mVar 2))))
def φ_within : M Ctl :=
  s_within_1
def F_within : Fn := runB 3 φ_within
def s_is_item_2 : M Ctl :=
  (mRet (mC (.bl false)))
def s_is_item_1 : M Ctl :=
  (mIf (mOr (mNot (mTest (mIsi (isiB "tuple") (mVar 0)))) (mOr (mTest (mOp opNeX (mCall fLen (mCons (mVar 0) mNil)) (mC (.int 2)))) (mOr (mNot (mTest (mIsi (isiB "str") (mOp ixD (mVar 0) (mC (.int 0)))))) (mTest (mOp opNotIn (mOp ixD (mVar 0) (mC (.int 0))) (mVar 2)))))) s_is_item_2 (M.ret .nx))
def s_is_item_3 : M Ctl :=
  (mRet (mAndV (mCallF 3 F_within (mRc .fz (mOp ixD (mVar 0) (mC (.int 1))) (mRc .fz (mC (.int 0)) (mRc .fz (mVar 1) mNil)))) (mOrV (mOp opEq (mOp ixD (mVar 0) (mC (.int 1))) (mC (.int 0))) (mOp opIn (mOp opSub (mVar 1) (mOp ixD (mVar 0) (mC (.int 1)))) (mOp ixD (mVar 2) (mOp ixD (mVar 0) (mC (.int 0))))))))
def φ_is_item : M Ctl :=
  (mSeq s_is_item_1
   s_is_item_3)
def F_is_item : Fn := runB 3 φ_is_item
def s_are_items_2 : M Ctl :=
  (mRet (mC (.bl false)))
def s_are_items_1 : M Ctl :=
  (mIf (mOr (mNot (mTest (mIsi (isiB "tuple") (mVar 0)))) (mNot (mTest (mCall fAll (mCons (mComp (mItems (mVar 0)) [3] (.nm 3) (M.ret true) (mCallF 3 F_is_item (mRc .fz (mVar 3) (mRc .fz (mVar 1) (mRc .keep (mVar 2) mNil))))) mNil))))) s_are_items_2 (M.ret .nx))
def s_are_items_3 : M Ctl :=
  (mRet (mCall fAll (mCons (mComp (mItf zip2A (mCons (mVar 0) (mCons (mSl (mVar 0) (some (mC (.int 1))) none) mNil))) [4, 5] (.tp [(.nm 4), (.nm 5)]) (M.ret true) (mOp opLt (mOp ixD (mVar 4) (mC (.int 0))) (mOp ixD (mVar 5) (mC (.int 0))))) mNil)))
def φ_are_items : M Ctl :=
  (mSeq s_are_items_1
   s_are_items_3)
def F_are_items : Fn := runB 6 φ_are_items
def s_is_record_2 : M Ctl :=
  (mRet (mC (.bl false)))
def s_is_record_1 : M Ctl :=
  (mIf (mOr (mNot (mTest (mIsi (isiB "tuple") (mVar 0)))) (mOr (mTest (mOp opEq (mVar 0) (mTup mNil))) (mNot (mTest (mIsi (isiB "str") (mOp ixD (mVar 0) (mC (.int 0)))))))) s_is_record_2 (M.ret .nx))
def s_is_record_4 : M Ctl :=
  (mRet (mAndV (mOp opEq (mCall fLen (mCons (mVar 0) mNil)) (mC (.int 3))) (mAndV (mCallF 1 F_is_name (mRc .fz (mOp ixD (mVar 0) (mC (.int 1))) mNil)) (mCallF 1 F_is_thing (mRc .fz (mOp ixD (mVar 0) (mC (.int 2))) mNil)))))
def s_is_record_3 : M Ctl :=
  (mIf (mTest (mOp opEq (mOp ixD (mVar 0) (mC (.int 0))) (mC (.str "head")))) s_is_record_4 (M.ret .nx))
def s_is_record_6 : M Ctl :=
  (mRet (mC (.bl false)))
def s_is_record_5 : M Ctl :=
  (mIf (mTest (mOp opNeX (mCall fLen (mCons (mVar 0) mNil)) (mC (.int 2)))) s_is_record_6 (M.ret .nx))
def s_is_record_7 : M Ctl :=
  (mRet (mIf (mTest (mOp opEq (mOp ixD (mVar 0) (mC (.int 0))) (mC (.str "strike")))) (mCallF 1 F_is_name (mRc .fz (mOp ixD (mVar 0) (mC (.int 1))) mNil)) (mAndV (mOp opEq (mOp ixD (mVar 0) (mC (.int 0))) (mC (.str "list"))) (mCallF 3 F_are_items (mRc .fz (mOp ixD (mVar 0) (mC (.int 1))) (mRc .fz (mVar 1) (mRc .keep (mVar 2) mNil)))))))
def φ_is_record : M Ctl :=
  (mSeq s_is_record_1
   (mSeq s_is_record_3
   (mSeq s_is_record_5
   s_is_record_7)))
def F_is_record : Fn := runB 3 φ_is_record
def s_Archive_init_2 : M Ctl :=
  (mRaiseF "BadRecord" ["number"] (mCons (mC (.int 0)) mNil))
def s_Archive_init_1 : M Ctl :=
  (mIf (mNot (mTest (mIsi (isiB "list") (mVar 1)))) s_Archive_init_2 (M.ret .nx))
def s_Archive_init_3 : M Ctl :=
  (mAsg 2 (M.ret (.ow (.dct []))))
def s_Archive_init_6 : M Ctl :=
  (mRaiseF "BadRecord" ["number"] (mCons (mVar 3) mNil))
def s_Archive_init_5 : M Ctl :=
  (mIf (mNot (mTest (mCallF 3 F_is_record (mRc .fz (mVar 4) (mRc .fz (mVar 3) (mRc .keep (mVar 2) mNil)))))) s_Archive_init_6 (M.ret .nx))
def s_Archive_init_8 : M Ctl :=
  (mAsgM (mOp opAdd (mReadF "dict" dGetF (mVar 2) (mCons (mOp ixD (mVar 4) (mC (.int 1))) (mCons (mLst mNil) mNil))) (mLst (mCons (mVar 3) mNil))) (gmSub (mVar 2) (mOp ixD (mVar 4) (mC (.int 1)))))
def s_Archive_init_7 : M Ctl :=
  (mIf (mTest (mOp opEq (mOp ixD (mVar 4) (mC (.int 0))) (mC (.str "head")))) s_Archive_init_8 (M.ret .nx))
def s_Archive_init_4 : M Ctl :=
  (mFor (mItf enumC (mCons (mVar 1) (mCons (mC (.int 1)) mNil))) (.tp [(.nm 3), (.nm 4)]) (mSeq s_Archive_init_5
   s_Archive_init_7))
def s_Archive_init_9 : M Ctl :=
  (mSetF "Archive" "kept_records" 0 (mCall fList (mCons (mVar 1) mNil)))
def s_Archive_init_10 : M Ctl :=
  (mSetF "Archive" "headed" 0 (mVar 2))
def φ_Archive_init : M Ctl :=
  (mSeq s_Archive_init_1
   (mSeq s_Archive_init_3
   (mSeq s_Archive_init_4
   (mSeq s_Archive_init_9
   s_Archive_init_10))))
def F_Archive_init : Fn := runB 5 φ_Archive_init
def s_Archive_records_1 : M Ctl :=
  (mRet (mCall fList (mCons (mFld "Archive" "kept_records" (mVar 0)) mNil)))
def φ_Archive_records : M Ctl :=
  s_Archive_records_1
def F_Archive_records : Fn := runB 1 φ_Archive_records
def s_marked_1 : M Ctl :=
  (mRet (mRead "str" sJoin (mC (.str "")) (mCons (mComp (mItems (mVar 0)) [1] (.nm 1) (M.ret true) (mKGet k_MARKS (mVar 1) (mVar 1))) mNil)))
def φ_marked : M Ctl :=
  s_marked_1
def F_marked : Fn := runB 2 φ_marked
def s_thing_text_1 : M Ctl :=
  (mRet (mIf (mTest (mOp opEq (mCall fLen (mCons (mVar 0) mNil)) (mC (.int 2)))) (mOp opAdd (mOp ixD (mOp ixD (mVar 0) (mC (.int 0))) (mC (.int 0))) (mCallF 1 F_marked (mRc .fz (mOp ixD (mVar 0) (mC (.int 1))) mNil))) (mC (.str "d"))))
def φ_thing_text : M Ctl :=
  s_thing_text_1
def F_thing_text : Fn := runB 1 φ_thing_text
def s_record_text_2 : M Ctl :=
  (mRet (mOp opAdd (mOp opAdd (mOp opAdd (mOp opAdd (mC (.str "h")) (mCallF 1 F_marked (mRc .fz (mOp ixD (mVar 0) (mC (.int 1))) mNil))) (mC (.str ":"))) (mCallF 1 F_thing_text (mRc .fz (mOp ixD (mVar 0) (mC (.int 2))) mNil))) (mC (.str ";"))))
def s_record_text_1 : M Ctl :=
  (mIf (mTest (mOp opEq (mOp ixD (mVar 0) (mC (.int 0))) (mC (.str "head")))) s_record_text_2 (M.ret .nx))
def s_record_text_4 : M Ctl :=
  (mRet (mOp opAdd (mOp opAdd (mC (.str "s")) (mCallF 1 F_marked (mRc .fz (mOp ixD (mVar 0) (mC (.int 1))) mNil))) (mC (.str ";"))))
def s_record_text_3 : M Ctl :=
  (mIf (mTest (mOp opEq (mOp ixD (mVar 0) (mC (.int 0))) (mC (.str "strike")))) s_record_text_4 (M.ret .nx))
def s_record_text_5 : M Ctl :=
  (mAsg 2 (mLst mNil))
def s_record_text_7 : M Ctl :=
  (mAsg 5 (mIf (mTest (mOp opGt (mVar 4) (mC (.int 0)))) (mOp opSub (mOp ixD (mVar 1) (mUn unNeg (mC (.int 1)))) (mOp ixD (mVar 1) (mOp opSub (mOp opSub (mCall fLen (mCons (mVar 1) mNil)) (mC (.int 1))) (mVar 4)))) (mC (.int 0))))
def s_record_text_8 : M Ctl :=
  (mExpr (mMut "list" lAppend (mVar 2) (mCons (mOp opAdd (mOp opAdd (mCallF 1 F_marked (mRc .fz (mVar 3) mNil)) (mC (.str ":"))) (mCall fStr (mCons (mVar 5) mNil))) mNil)))
def s_record_text_6 : M Ctl :=
  (mFor (mItems (mOp ixD (mVar 0) (mC (.int 1)))) (.tp [(.nm 3), (.nm 4)]) (mSeq s_record_text_7
   s_record_text_8))
def s_record_text_9 : M Ctl :=
  (mRet (mOp opAdd (mOp opAdd (mC (.str "l")) (mRead "str" sJoin (mC (.str ",")) (mCons (mVar 2) mNil))) (mC (.str ";"))))
def φ_record_text : M Ctl :=
  (mSeq s_record_text_1
   (mSeq s_record_text_3
   (mSeq s_record_text_5
   (mSeq s_record_text_6
   s_record_text_9))))
def F_record_text : Fn := runB 6 φ_record_text
def s_show_1 : M Ctl :=
  (mPar [1, 2] (mRc .unsl (mC (.str "")) (mRc .unsl (mLst mNil) mNil)))
def s_show_3 : M Ctl :=
  (mAsg 2 (mOp opAdd (mVar 2) (mLst (mCons (mCall fLen (mCons (mVar 1) mNil)) mNil))))
def s_show_4 : M Ctl :=
  (mAsg 1 (mOp opAdd (mVar 1) (mCallF 2 F_record_text (mRc .fz (mVar 3) (mRc .fz (mVar 2) mNil)))))
def s_show_2 : M Ctl :=
  (mFor (mItems (mProp "Archive" "records" .fz F_Archive_records (mVar 0))) (.nm 3) (mSeq s_show_3
   s_show_4))
def s_show_5 : M Ctl :=
  (mRet (mVar 1))
def φ_show : M Ctl :=
  (mSeq s_show_1
   (mSeq s_show_2
   s_show_5))
def F_show : Fn := runB 4 φ_show
def s_whole_part_1 : M Ctl :=
  (mRet (mSl (mVar 0) none (some (mOp opAdd (mRead "str" sRfind (mVar 0) (mCons (mC (.str ";")) mNil)) (mC (.int 1))))))
def φ_whole_part : M Ctl :=
  s_whole_part_1
def F_whole_part : Fn := runB 1 φ_whole_part
def s_Archive_eq_1 : M Ctl :=
  (mRet (mAndV (mIsi (isiC own_Archive) (mVar 1)) (mOp opEq (mFld "Archive" "kept_records" (mVar 0)) (mFld "Archive" "kept_records" (mVar 1)))))
def φ_Archive_eq : M Ctl :=
  s_Archive_eq_1
def F_Archive_eq : Fn := runB 2 φ_Archive_eq
def s_unmarked_1 : M Ctl :=
  (mPar [1, 2] (mRc .unsl (mC (.str "")) (mRc .unsl (mC (.int 0)) mNil)))
def s_unmarked_5 : M Ctl :=
  (mRet (mC .non))
def s_unmarked_4 : M Ctl :=
  (mIf (mTest (mKIn k_MARKS false (mOp ixD (mVar 0) (mVar 2)))) s_unmarked_5 (M.ret .nx))
def s_unmarked_6 : M Ctl :=
  (mAsg 1 (mOp opAdd (mVar 1) (mOp ixD (mVar 0) (mVar 2))))
def s_unmarked_7 : M Ctl :=
  (mAsg 2 (mOp opAdd (mVar 2) (mC (.int 1))))
def s_unmarked_10 : M Ctl :=
  (mRet (mC .non))
def s_unmarked_9 : M Ctl :=
  (mIf (mTest (mKIn k_SIGNS true (mSl (mVar 0) (some (mOp opAdd (mVar 2) (mC (.int 1)))) (some (mOp opAdd (mVar 2) (mC (.int 2))))))) s_unmarked_10 (M.ret .nx))
def s_unmarked_11 : M Ctl :=
  (mAsg 1 (mOp opAdd (mVar 1) (mKIx k_SIGNS (mOp ixD (mVar 0) (mOp opAdd (mVar 2) (mC (.int 1)))))))
def s_unmarked_12 : M Ctl :=
  (mAsg 2 (mOp opAdd (mVar 2) (mC (.int 2))))
def s_unmarked_3 : M Ctl :=
  (mIf (mTest (mOp opNeX (mOp ixD (mVar 0) (mVar 2)) (mC (.str "^")))) (mSeq s_unmarked_4
   (mSeq s_unmarked_6
   s_unmarked_7)) (mSeq s_unmarked_9
   (mSeq s_unmarked_11
   s_unmarked_12)))
def s_unmarked_2 : M Ctl :=
  (mWhile (mTest (mOp opLt (mVar 2) (mCall fLen (mCons (mVar 0) mNil)))) s_unmarked_3 100000)
def s_unmarked_13 : M Ctl :=
  (mRet (mVar 1))
def φ_unmarked : M Ctl :=
  (mSeq s_unmarked_1
   (mSeq s_unmarked_2
   s_unmarked_13))
def F_unmarked : Fn := runB 3 φ_unmarked
def s_read_number_2 : M Ctl :=
  (mRet (mC .non))
def s_read_number_1 : M Ctl :=
  (mIf (mOr (mTest (mOp opEq (mVar 0) (mC (.str "")))) (mOr (mTest (mOp opGt (mCall fLen (mCons (mVar 0) mNil)) (mC (.int 30)))) (mNot (mTest (mCall fAll (mCons (mComp (mItems (mVar 0)) [1] (.nm 1) (M.ret true) (mOp opIn (mVar 1) (mC (.str "0123456789")))) mNil)))))) s_read_number_2 (M.ret .nx))
def s_read_number_3 : M Ctl :=
  (mRet (mIf (mTest (mOp opEq (mCall fStr (mCons (mCall fInt (mCons (mVar 0) mNil)) mNil)) (mVar 0))) (mCall fInt (mCons (mVar 0) mNil)) (mC .non)))
def φ_read_number : M Ctl :=
  (mSeq s_read_number_1
   s_read_number_3)
def F_read_number : Fn := runB 2 φ_read_number
def s_read_item_1 : M Ctl :=
  (mAsg 2 (mRead "str" sSplit (mVar 0) (mCons (mC (.str ":")) mNil)))
def s_read_item_2 : M Ctl :=
  (mPar [3, 4] (mRc .unsl (mCallF 1 F_unmarked (mRc .fz (mOp ixD (mVar 2) (mC (.int 0))) mNil)) (mRc .unsl (mCallF 1 F_read_number (mRc .fz (mOp ixD (mVar 2) (mUn unNeg (mC (.int 1)))) mNil)) mNil)))
def s_read_item_4 : M Ctl :=
  (mRet (mC .non))
def s_read_item_3 : M Ctl :=
  (mIf (mOr (mTest (mOp opNeX (mCall fLen (mCons (mVar 2) mNil)) (mC (.int 2)))) (mOr (mTest (mOp opIs (mVar 3) (mC .non))) (mTest (mOp opIs (mVar 4) (mC .non))))) s_read_item_4 (M.ret .nx))
def s_read_item_6 : M Ctl :=
  (mRet (mTup (mCons (mVar 3) (mCons (mC (.int 0)) mNil))))
def s_read_item_5 : M Ctl :=
  (mIf (mTest (mOp opEq (mVar 4) (mC (.int 0)))) s_read_item_6 (M.ret .nx))
def s_read_item_7 : M Ctl :=
  (mAsg 5 (mOp opSub (mOp ixD (mVar 1) (mUn unNeg (mC (.int 1)))) (mVar 4)))
def s_read_item_8 : M Ctl :=
  (mRet (mIf (mTest (mOp opIn (mVar 5) (mVar 1))) (mTup (mCons (mVar 3) (mCons (mOp opSub (mOp opSub (mCall fLen (mCons (mVar 1) mNil)) (mC (.int 1))) (mRead "list" lIndex (mVar 1) (mCons (mVar 5) mNil))) mNil))) (mC .non)))
def φ_read_item : M Ctl :=
  (mSeq s_read_item_1
   (mSeq s_read_item_2
   (mSeq s_read_item_3
   (mSeq s_read_item_5
   (mSeq s_read_item_7
   s_read_item_8)))))
def F_read_item : Fn := runB 6 φ_read_item
def s_read_thing_2 : M Ctl :=
  (mRet (mTup (mCons (mC (.str "folder")) mNil)))
def s_read_thing_1 : M Ctl :=
  (mIf (mTest (mOp opEq (mVar 0) (mC (.str "d")))) s_read_thing_2 (M.ret .nx))
def s_read_thing_3 : M Ctl :=
  (mAsg 1 (mDisp [((mC (.str "f")), (mC (.str "file"))), ((mC (.str "l")), (mC (.str "link")))]))
def s_read_thing_4 : M Ctl :=
  (mAsg 2 (mCallF 1 F_unmarked (mRc .fz (mSl (mVar 0) (some (mC (.int 1))) none) mNil)))
def s_read_thing_5 : M Ctl :=
  (mRet (mIf (mOr (mTest (mOp opNotIn (mSl (mVar 0) none (some (mC (.int 1)))) (mVar 1))) (mTest (mOp opIs (mVar 2) (mC .non)))) (mC .non) (mTup (mCons (mOp ixD (mVar 1) (mOp ixD (mVar 0) (mC (.int 0)))) (mCons (mVar 2) mNil)))))
def φ_read_thing : M Ctl :=
  (mSeq s_read_thing_1
   (mSeq s_read_thing_3
   (mSeq s_read_thing_4
   s_read_thing_5)))
def F_read_thing : Fn := runB 3 φ_read_thing
def s_read_record_2 : M Ctl :=
  (mAsg 2 (mRead "str" sSplit (mSl (mVar 0) (some (mC (.int 1))) none) (mCons (mC (.str ":")) mNil)))
def s_read_record_3 : M Ctl :=
  (mRet (mIf (mTest (mOp opNeX (mCall fLen (mCons (mVar 2) mNil)) (mC (.int 2)))) (mC .non) (mTup (mCons (mC (.str "head")) (mCons (mCallF 1 F_unmarked (mRc .fz (mOp ixD (mVar 2) (mC (.int 0))) mNil)) (mCons (mCallF 1 F_read_thing (mRc .fz (mOp ixD (mVar 2) (mC (.int 1))) mNil)) mNil))))))
def s_read_record_1 : M Ctl :=
  (mIf (mTest (mOp opEq (mSl (mVar 0) none (some (mC (.int 1)))) (mC (.str "h")))) (mSeq s_read_record_2
   s_read_record_3) (M.ret .nx))
def s_read_record_5 : M Ctl :=
  (mRet (mTup (mCons (mC (.str "strike")) (mCons (mCallF 1 F_unmarked (mRc .fz (mSl (mVar 0) (some (mC (.int 1))) none) mNil)) mNil))))
def s_read_record_4 : M Ctl :=
  (mIf (mTest (mOp opEq (mSl (mVar 0) none (some (mC (.int 1)))) (mC (.str "s")))) s_read_record_5 (M.ret .nx))
def s_read_record_7 : M Ctl :=
  (mRet (mC .non))
def s_read_record_6 : M Ctl :=
  (mIf (mTest (mOp opNeX (mSl (mVar 0) none (some (mC (.int 1)))) (mC (.str "l")))) s_read_record_7 (M.ret .nx))
def s_read_record_8 : M Ctl :=
  (mAsg 3 (mIf (mTest (mOp opNeX (mVar 0) (mC (.str "l")))) (mComp (mItems (mRead "str" sSplit (mSl (mVar 0) (some (mC (.int 1))) none) (mCons (mC (.str ",")) mNil))) [4] (.nm 4) (M.ret true) (mCallF 2 F_read_item (mRc .fz (mVar 4) (mRc .fz (mVar 1) mNil)))) (mLst mNil)))
def s_read_record_9 : M Ctl :=
  (mRet (mTup (mCons (mC (.str "list")) (mCons (mCall fTuple (mCons (mVar 3) mNil)) mNil))))
def φ_read_record : M Ctl :=
  (mSeq s_read_record_1
   (mSeq s_read_record_4
   (mSeq s_read_record_6
   (mSeq s_read_record_8
   s_read_record_9))))
def F_read_record : Fn := runB 5 φ_read_record
def s_read_2 : M Ctl :=
  (mRaiseF "BadText" ["number"] (mCons (mC (.int 1)) mNil))
def s_read_1 : M Ctl :=
  (mIf (mNot (mTest (mIsi (isiB "str") (mVar 0)))) s_read_2 (M.ret .nx))
def s_read_3 : M Ctl :=
  (mPar [1, 2, 3, 4] (mRc .unsl (mLst mNil) (mRc .unsl (mLst mNil) (mRc .unsl (M.ret (.ow (.dct []))) (mRc .unsl (mC (.int 0)) mNil)))))
def s_read_5 : M Ctl :=
  (mAsg 2 (mOp opAdd (mVar 2) (mLst (mCons (mVar 4) mNil))))
def s_read_6 : M Ctl :=
  (mAsg 7 (mCallF 2 F_read_record (mRc .fz (mVar 6) (mRc .fz (mVar 2) mNil))))
def s_read_8 : M Ctl :=
  (mRaiseF "BadText" ["number"] (mCons (mVar 5) mNil))
def s_read_7 : M Ctl :=
  (mIf (mNot (mTest (mCallF 3 F_is_record (mRc .fz (mVar 7) (mRc .fz (mVar 5) (mRc .keep (mVar 3) mNil)))))) s_read_8 (M.ret .nx))
def s_read_10 : M Ctl :=
  (mAsgM (mOp opAdd (mReadF "dict" dGetF (mVar 3) (mCons (mOp ixD (mVar 7) (mC (.int 1))) (mCons (mLst mNil) mNil))) (mLst (mCons (mVar 5) mNil))) (gmSub (mVar 3) (mOp ixD (mVar 7) (mC (.int 1)))))
def s_read_9 : M Ctl :=
  (mIf (mTest (mOp opEq (mOp ixD (mVar 7) (mC (.int 0))) (mC (.str "head")))) s_read_10 (M.ret .nx))
def s_read_11 : M Ctl :=
  (mExpr (mMut "list" lAppend (mVar 1) (mCons (mVar 7) mNil)))
def s_read_12 : M Ctl :=
  (mAsg 4 (mOp opAdd (mOp opAdd (mVar 4) (mCall fLen (mCons (mVar 6) mNil))) (mC (.int 1))))
def s_read_4 : M Ctl :=
  (mFor (mItf enumC (mCons (mSl (mRead "str" sSplit (mVar 0) (mCons (mC (.str ";")) mNil)) none (some (mUn unNeg (mC (.int 1))))) (mCons (mC (.int 1)) mNil))) (.tp [(.nm 5), (.nm 6)]) (mSeq s_read_5
   (mSeq s_read_6
   (mSeq s_read_7
   (mSeq s_read_9
   (mSeq s_read_11
   s_read_12))))))
def s_read_14 : M Ctl :=
  (mRaiseF "BadText" ["number"] (mCons (mOp opAdd (mCall fLen (mCons (mVar 1) mNil)) (mC (.int 1))) mNil))
def s_read_13 : M Ctl :=
  (mIf (mTest (mOp opNeX (mVar 4) (mCall fLen (mCons (mVar 0) mNil)))) s_read_14 (M.ret .nx))
def s_read_15 : M Ctl :=
  (mRet (mMake "Archive" 2 F_Archive_init (mRc .fz (mVar 1) mNil)))
def φ_read : M Ctl :=
  (mSeq s_read_1
   (mSeq s_read_3
   (mSeq s_read_4
   (mSeq s_read_13
   s_read_15))))
def F_read : Fn := runB 8 φ_read
def s_thing_at_1 : M Ctl :=
  (mRet (mOp ixD (mOp ixD (mVar 0) (mOp opSub (mVar 1) (mC (.int 1)))) (mC (.int 2))))
def φ_thing_at : M Ctl :=
  s_thing_at_1
def F_thing_at : Fn := runB 2 φ_thing_at
def s_from_front_1 : M Ctl :=
  (mAsg 1 (mProp "Archive" "records" .fz F_Archive_records (mCallF 1 F_read (mRc .fz (mCallF 1 F_whole_part (mRc .fz (mVar 0) mNil)) mNil))))
def s_from_front_2 : M Ctl :=
  (mPar [2, 3] (mRc .unsl (M.ret (.ow (.dct []))) (mRc .unsl (M.ret (.ow (.dct []))) mNil)))
def s_from_front_7 : M Ctl :=
  (mAsgM (mReadF "dict" dGetF (mVar 2) (mCons (mVar 6) (mCons (mC (.int 0)) mNil))) (gmSub (mVar 3) (mVar 6)))
def s_from_front_6 : M Ctl :=
  (mIf (mTest (mOp opEq (mReadF "dict" dGetF (mVar 2) (mCons (mVar 6) (mCons (mC (.int 0)) mNil))) (mIf (mTest (mOp opGt (mVar 7) (mC (.int 0)))) (mOp opSub (mVar 4) (mVar 7)) (mC (.int 0))))) s_from_front_7 (M.ret .nx))
def s_from_front_5 : M Ctl :=
  (mFor (mItems (mOp ixD (mVar 5) (mC (.int 1)))) (.tp [(.nm 6), (.nm 7)]) s_from_front_6)
def s_from_front_9 : M Ctl :=
  (mAsgM (mIf (mTest (mOp opEq (mOp ixD (mVar 5) (mC (.int 0))) (mC (.str "head")))) (mVar 4) (mC (.int 0))) (gmSub (mVar 2) (mOp ixD (mVar 5) (mC (.int 1)))))
def s_from_front_4 : M Ctl :=
  (mIf (mTest (mOp opEq (mOp ixD (mVar 5) (mC (.int 0))) (mC (.str "list")))) s_from_front_5 s_from_front_9)
def s_from_front_3 : M Ctl :=
  (mFor (mItf enumC (mCons (mVar 1) (mCons (mC (.int 1)) mNil))) (.tp [(.nm 4), (.nm 5)]) s_from_front_4)
def s_from_front_10 : M Ctl :=
  (mRet (mDc (dItems 3) [6, 4] (.tp [(.nm 6), (.nm 4)]) (mTest (mOp opGt (mVar 4) (mC (.int 0)))) (mVar 6) (mCallF 2 F_thing_at (mRc .fz (mVar 1) (mRc .fz (mVar 4) mNil)))))
def φ_from_front : M Ctl :=
  (mSeq s_from_front_1
   (mSeq s_from_front_2
   (mSeq s_from_front_3
   s_from_front_10)))
def F_from_front : Fn := runB 8 φ_from_front
def s_from_end_1 : M Ctl :=
  (mAsg 1 (mProp "Archive" "records" .fz F_Archive_records (mCallF 1 F_read (mRc .fz (mCallF 1 F_whole_part (mRc .fz (mVar 0) mNil)) mNil))))
def s_from_end_4 : M Ctl :=
  (mAsg 3 (mOp ixD (mOp ixD (mVar 1) (mOp opSub (mVar 2) (mC (.int 1)))) (mC (.int 1))))
def s_from_end_5 : M Ctl :=
  (mRet (mDc (mItems (mVar 3)) [4, 5] (.tp [(.nm 4), (.nm 5)]) (mTest (mOp opGt (mVar 5) (mC (.int 0)))) (mVar 4) (mCallF 2 F_thing_at (mRc .fz (mVar 1) (mRc .fz (mOp opSub (mVar 2) (mVar 5)) mNil)))))
def s_from_end_3 : M Ctl :=
  (mIf (mTest (mOp opEq (mOp ixD (mOp ixD (mVar 1) (mOp opSub (mVar 2) (mC (.int 1)))) (mC (.int 0))) (mC (.str "list")))) (mSeq s_from_end_4
   s_from_end_5) (M.ret .nx))
def s_from_end_2 : M Ctl :=
  (mFor (mIt range3 (mCons (mCall fLen (mCons (mVar 1) mNil)) (mCons (mC (.int 0)) (mCons (mUn unNeg (mC (.int 1))) mNil)))) (.nm 2) s_from_end_3)
def s_from_end_6 : M Ctl :=
  (mRet (M.ret (.ow (.dct []))))
def φ_from_end : M Ctl :=
  (mSeq s_from_end_1
   (mSeq s_from_end_2
   s_from_end_6))
def F_from_end : Fn := runB 6 φ_from_end
def s_by_all_1 : M Ctl :=
  (mAsg 1 (mProp "Archive" "records" .fz F_Archive_records (mCallF 1 F_read (mRc .fz (mCallF 1 F_whole_part (mRc .fz (mVar 0) mNil)) mNil))))
def s_by_all_2 : M Ctl :=
  (mPar [2, 3] (mRc .unsl (M.ret (.ow (.dct []))) (mRc .unsl (M.ret (.ow (.dct []))) mNil)))
def s_by_all_7 : M Ctl :=
  (mAsgM (mCallF 2 F_thing_at (mRc .fz (mVar 1) (mRc .fz (mOp opSub (mVar 4) (mVar 6)) mNil))) (gmSub (mVar 3) (mVar 5)))
def s_by_all_6 : M Ctl :=
  (mIf (mAnd (mTest (mOp opNotIn (mVar 5) (mVar 2))) (mTest (mOp opGt (mVar 6) (mC (.int 0))))) s_by_all_7 (M.ret .nx))
def s_by_all_8 : M Ctl :=
  (mAsgM (mC (.bl true)) (gmSub (mVar 2) (mVar 5)))
def s_by_all_5 : M Ctl :=
  (mFor (mItems (mOp ixD (mOp ixD (mVar 1) (mOp opSub (mVar 4) (mC (.int 1)))) (mC (.int 1)))) (.tp [(.nm 5), (.nm 6)]) (mSeq s_by_all_6
   s_by_all_8))
def s_by_all_4 : M Ctl :=
  (mIf (mTest (mOp opEq (mOp ixD (mOp ixD (mVar 1) (mOp opSub (mVar 4) (mC (.int 1)))) (mC (.int 0))) (mC (.str "list")))) s_by_all_5 (M.ret .nx))
def s_by_all_3 : M Ctl :=
  (mFor (mIt range3 (mCons (mCall fLen (mCons (mVar 1) mNil)) (mCons (mC (.int 0)) (mCons (mUn unNeg (mC (.int 1))) mNil)))) (.nm 4) s_by_all_4)
def s_by_all_9 : M Ctl :=
  (mRet (mVar 3))
def φ_by_all : M Ctl :=
  (mSeq s_by_all_1
   (mSeq s_by_all_2
   (mSeq s_by_all_3
   s_by_all_9)))
def F_by_all : Fn := runB 7 φ_by_all
def s_law_told_1 : M Ctl :=
  (mRet (mLst (mCons (mCallF 1 F_from_front (mRc .fz (mVar 0) mNil)) (mCons (mCallF 1 F_from_end (mRc .fz (mVar 0) mNil)) (mCons (mCallF 1 F_by_all (mRc .fz (mVar 0) mNil)) mNil)))))
def φ_law_told : M Ctl :=
  s_law_told_1
def F_law_told : Fn := runB 1 φ_law_told
def s_Archive_cut_2 : M Ctl :=
  (mRaiseF "NoRecord" ["number"] (mCons (mVar 1) mNil))
def s_Archive_cut_1 : M Ctl :=
  (mIf (mNot (mTest (mCallF 3 F_within (mRc .fz (mVar 1) (mRc .fz (mC (.int 0)) (mRc .fz (mCall fLen (mCons (mFld "Archive" "kept_records" (mVar 0)) mNil)) mNil)))))) s_Archive_cut_2 (M.ret .nx))
def s_Archive_cut_3 : M Ctl :=
  (mRet (mMake "Archive" 2 F_Archive_init (mRc .fz (mSl (mFld "Archive" "kept_records" (mVar 0)) none (some (mVar 1))) mNil)))
def φ_Archive_cut : M Ctl :=
  (mSeq s_Archive_cut_1
   s_Archive_cut_3)
def F_Archive_cut : Fn := runB 2 φ_Archive_cut
def s_law_2 : M Ctl :=
  (mAsg 2 (mCallF 2 F_law_feed (mRc .fz (mVar 0) (mRc .fz (mVar 1) mNil))))
def s_law_3 : M Ctl :=
  (mAsg 3 (mCallF 2 F_law_records (mRc .keep (mVar 2) (mRc .fz (mOp opAdd (mC (.int 1)) (mCallF 2 F_law_take (mRc .keep (mVar 2) (mRc .fz (mC (.int 12)) mNil)))) mNil))))
def s_law_4 : M Ctl :=
  (mAsg 4 (mMake "Archive" 2 F_Archive_init (mRc .fz (mVar 3) mNil)))
def s_law_5 : M Ctl :=
  (mAsg 5 (mCallF 1 F_show (mRc .fz (mVar 4) mNil)))
def s_law_6 : M Ctl :=
  (mAsg 6 (mComp (mIt range1 (mCons (mOp opAdd (mCall fLen (mCons (mVar 3) mNil)) (mC (.int 1))) mNil)) [10] (.nm 10) (M.ret true) (mCall fLen (mCons (mCallF 1 F_show (mRc .fz (mMeth "Archive" "cut" .fz 2 F_Archive_cut (mVar 4) (mRc .fz (mVar 10) mNil)) mNil)) mNil))))
def s_law_7 : M Ctl :=
  (mAsg 7 (mOp opAdd (mLst (mCons (mC (.int 0)) (mCons (mCall fLen (mCons (mVar 5) mNil)) mNil))) (mComp (mIt range1 (mCons (mC (.int 8)) mNil)) [12] (.nm 12) (M.ret true) (mCallF 2 F_law_take (mRc .keep (mVar 2) (mRc .fz (mOp opAdd (mCall fLen (mCons (mVar 5) mNil)) (mC (.int 1))) mNil))))))
def s_law_9 : M Ctl :=
  (mAsg 7 (mOp opAdd (mVar 7) (mLst (mCons (mOp opSub (mVar 8) (mC (.int 1))) (mCons (mVar 8) mNil)))))
def s_law_8 : M Ctl :=
  (mFor (mItems (mSl (mVar 6) (some (mC (.int 1))) (some (mC (.int 4))))) (.nm 8) s_law_9)
def s_law_11 : M Ctl :=
  (mAsg 10 (mOp opSub (mCall fLen (mCons (mComp (mItems (mVar 6)) [8] (.nm 8) (mTest (mOp opLe (mVar 8) (mVar 9))) (mVar 8)) mNil)) (mC (.int 1))))
def s_law_12 : M Ctl :=
  (mAsg 11 (mCallF 1 F_whole_part (mRc .fz (mSl (mVar 5) none (some (mVar 9))) mNil)))
def s_law_14 : M Ctl :=
  (mRet (mC (.bl false)))
def s_law_13 : M Ctl :=
  (mIf (mOr (mTest (mOp opNeX (mVar 11) (mSl (mVar 5) none (some (mOp ixD (mVar 6) (mVar 10)))))) (mTest (mOwn "Archive" true F_Archive_eq (mCallF 1 F_read (mRc .fz (mVar 11) mNil)) (mMeth "Archive" "cut" .fz 2 F_Archive_cut (mVar 4) (mRc .fz (mVar 10) mNil))))) s_law_14 (M.ret .nx))
def s_law_16 : M Ctl :=
  (mRet (mC (.bl false)))
def s_law_15 : M Ctl :=
  (mIf (mTest (mOp opNeX (mCallF 1 F_law_told (mRc .fz (mSl (mVar 5) none (some (mVar 9))) mNil)) (mCallF 1 F_law_told (mRc .fz (mVar 11) mNil)))) s_law_16 (M.ret .nx))
def s_law_10 : M Ctl :=
  (mFor (mItems (mVar 7)) (.nm 9) (mSeq s_law_11
   (mSeq s_law_12
   (mSeq s_law_13
   s_law_15))))
def s_law_1 : M Ctl :=
  (mFor (mIt range1 (mCons (mCall fMax (mCons (mC (.int 1)) (mCons (mCall fMin (mCons (mC (.int 2)) (mCons (mCall fLen (mCons (mVar 0) mNil)) mNil))) mNil))) mNil)) (.nm 1) (mSeq s_law_2
   (mSeq s_law_3
   (mSeq s_law_4
   (mSeq s_law_5
   (mSeq s_law_6
   (mSeq s_law_7
   (mSeq s_law_8
   s_law_10))))))))
def s_law_17 : M Ctl :=
  (mRet (mC (.bl true)))
def φ_law : M Ctl :=
  (mSeq s_law_1
   s_law_17)
def F_law : Fn := runB 13 φ_law
end LW

namespace LW
open PySem DL
/-! numbers -/
def nt (n : Nat) : Str := Str.ofString (toString ((n : Nat) : Int))
def rnB (n : Nat) : Bool := match F_read_number [.fz (.str (nt n))] with
  | .ok false (.int m) [] => decide (m = (n : Int))
  | _ => false
theorem rn_all : ((List.range 520).all rnB) = true := by kernel_rfl
end LW

namespace LW
open PySem DL
/-! ### the drawn names and things, evaluated -/
def S5 : List Str := ["a", "b", "b.d", "b/c", "d"]
def fo : D := .tup [.str "folder"]
def fi (s : Str) : D := .tup [.str "file", .str s]
def li (s : Str) : D := .tup [.str "link", .str s]
/-- the things, each with its text -/
def T6 : List (D × Str) := [(fo, "d"), (fi "", "f"), (fi "text", "ftext"), (li "b", "lb"), (li "d/e", "ld/e"), (fi "a;b:c^,d", "fa^2b^3c^1^4d")]
theorem of5 {p : Str → Prop} (h1 : p "a") (h2 : p "b") (h3 : p "b.d") (h4 : p "b/c") (h5 : p "d") : ∀ n ∈ S5, p n := by
  intro n hn
  simp only [S5, List.mem_cons, List.not_mem_nil, or_false] at hn
  rcases hn with rfl | rfl | rfl | rfl | rfl <;> assumption
theorem of6 {p : D × Str → Prop} (h1 : p (fo, "d")) (h2 : p (fi "", "f")) (h3 : p (fi "text", "ftext")) (h4 : p (li "b", "lb")) (h5 : p (li "d/e", "ld/e")) (h6 : p (fi "a;b:c^,d", "fa^2b^3c^1^4d")) : ∀ n ∈ T6, p n := by
  intro n hn
  simp only [T6, List.mem_cons, List.not_mem_nil, or_false] at hn
  rcases hn with rfl | rfl | rfl | rfl | rfl | rfl <;> assumption
theorem mk_n : ∀ n ∈ S5, F_marked [.fz (.str n)] = .ok false (.str n) [] := of5 (by kernel_rfl) (by kernel_rfl) (by kernel_rfl) (by kernel_rfl) (by kernel_rfl)
theorem um_n : ∀ n ∈ S5, F_unmarked [.fz (.str n)] = .ok false (.str n) [] := of5 (by kernel_rfl) (by kernel_rfl) (by kernel_rfl) (by kernel_rfl) (by kernel_rfl)
theorem nm_n : ∀ n ∈ S5, F_is_name [.fz (.str n)] = .ok false (.bl true) [] := of5 (by kernel_rfl) (by kernel_rfl) (by kernel_rfl) (by kernel_rfl) (by kernel_rfl)
theorem tx_t : ∀ t ∈ T6, F_thing_text [.fz t.1] = .ok false (.str t.2) [] := of6 (by kernel_rfl) (by kernel_rfl) (by kernel_rfl) (by kernel_rfl) (by kernel_rfl) (by kernel_rfl)
theorem rd_t : ∀ t ∈ T6, F_read_thing [.fz (.str t.2)] = .ok false t.1 [] := of6 (by kernel_rfl) (by kernel_rfl) (by kernel_rfl) (by kernel_rfl) (by kernel_rfl) (by kernel_rfl)
theorem is_t : ∀ t ∈ T6, F_is_thing [.fz t.1] = .ok false (.bl true) [] := of6 (by kernel_rfl) (by kernel_rfl) (by kernel_rfl) (by kernel_rfl) (by kernel_rfl) (by kernel_rfl)
theorem rn_run {n : Nat} (h : n < 520) : F_read_number [.fz (.str (nt n))] = .ok false (.int n) [] := by
  have z := List.all_eq_true.mp rn_all n (List.mem_range.mpr h)
  unfold rnB at z
  split at z
  · rename_i e
    rw [e, of_decide_eq_true z]
  · cases z
/-! ### records -/
inductive Rc where
  | hd (n : Str) (t : D × Str)
  | st (n : Str)
  | ls (its : List (Str × Nat))
def itD (q : Str × Nat) : D := .tup [.str q.1, .int q.2]
def Rc.d : Rc → D
  | .hd n t => .tup [.str "head", .str n, t.1]
  | .st n => .tup [.str "strike", .str n]
  | .ls its => .tup [.str "list", .tup (its.map itD)]
/-- the starts told to a record: its own last -/
def dist (sts : List Nat) (b : Nat) : Nat := if 0 < b then (sts.getLast?.getD 0) - (sts[sts.length - 1 - b]?.getD 0) else 0
def itS (sts : List Nat) (q : Str × Nat) : Str := q.1 ++ ":" ++ nt (dist sts q.2)
def piece (sts : List Nat) : Rc → Str
  | .hd n t => "h" ++ n ++ ":" ++ t.2
  | .st n => "s" ++ n
  | .ls its => "l" ++ Txt.join "," (its.map (itS sts))
/-- a record among those ahead of it -/
def isHd (pre : List Rc) (n : Str) (j : Nat) : Prop := ∃ t ∈ T6, pre[j]? = some (.hd n t)
def VR (pre : List Rc) : Rc → Prop
  | .hd n t => n ∈ S5 ∧ t ∈ T6
  | .st n => n ∈ S5
  | .ls its => its.length ≤ 5 ∧ (its.map (·.1)).Pairwise (fun a c => a.cps.toList < c.cps.toList) ∧ ∀ q ∈ its, q.1 ∈ S5 ∧ (∃ j, isHd pre q.1 j) ∧ (q.2 = 0 ∨ (q.2 ≤ pre.length ∧ isHd pre q.1 (pre.length - q.2)))
def VA : List Rc → List Rc → Prop
  | _, [] => True
  | pre, r :: rs => VR pre r ∧ VA (pre ++ [r]) rs
theorem VA.app : ∀ {rs ss : List Rc} {pre : List Rc}, VA pre (rs ++ ss) ↔ VA pre rs ∧ VA (pre ++ rs) ss
  | [], ss, pre => by simp [VA]
  | r :: rs, ss, pre => by
    show VR pre r ∧ VA (pre ++ [r]) (rs ++ ss) ↔ (VR pre r ∧ VA (pre ++ [r]) rs) ∧ _
    rw [VA.app, List.append_assoc]
    constructor
    · rintro ⟨a, b, c⟩; exact ⟨⟨a, b⟩, c⟩
    · rintro ⟨⟨a, b⟩, c⟩; exact ⟨a, b, c⟩
/-- starts and text as they grow -/
def go1 (s : List Nat × Str) (r : Rc) : List Nat × Str := (s.1 ++ [s.2.length], s.2 ++ (piece (s.1 ++ [s.2.length]) r ++ ";"))
def go (s : List Nat × Str) (rs : List Rc) : List Nat × Str := rs.foldl go1 s
theorem go_app (s : List Nat × Str) (rs ss : List Rc) : go s (rs ++ ss) = go (go s rs) ss := List.foldl_append
end LW

namespace LW
open PySem DL
/-! ### running: numbers, lists, texts -/
@[simp] theorem opGt_i (i j : Int) : opGt (.int i) (.int j) = some (.fz (.bl (decide (j < i)))) := rfl
@[simp] theorem opLt_i (i j : Int) : opLt (.int i) (.int j) = some (.fz (.bl (decide (i < j)))) := rfl
@[simp] theorem opLe_i (i j : Int) : opLe (.int i) (.int j) = some (.fz (.bl (decide (i ≤ j)))) := rfl
@[simp] theorem opSub_i (i j : Int) : opSub (.int i) (.int j) = some (.fz (.int (i - j))) := rfl
@[simp] theorem opEq_i (i j : Int) : opEq (.int i) (.int j) = some (.fz (.bl (decide (i = j)))) := by
  unfold opEq eqD
  by_cases h : i = j
  · subst h; simp [fl, L2.eqV]
  · simp [fl, L2.eqV, h]
@[simp] theorem opNe_i (i j : Int) : opNe (.int i) (.int j) = some (.fz (.bl !(decide (i = j)))) := by
  unfold opNe eqD
  by_cases h : i = j
  · subst h; simp [fl, L2.eqV]
  · simp [fl, L2.eqV, h]
@[simp] theorem opNeX_i (i j : Int) : opNeX (.int i) (.int j) = some (.fz (.bl !(decide (i = j)))) := by unfold opNeX; simp
@[simp] theorem opNeX_s (a c : Str) : opNeX (.str a) (.str c) = some (.fz (.bl !(decide (a = c)))) := by unfold opNeX; simp
@[simp] theorem fLen_lst (l : List D) : fLen [.lst l] = some (.fz (.int l.length)) := rfl
@[simp] theorem fLen_tup (l : List D) : fLen [.tup l] = some (.fz (.int l.length)) := rfl
theorem len_s {l : Str} (h : l.length ≤ 10000) : fLen [.str l] = some (.fz (.int l.length)) := by
  show (if l.length ≤ sizeLine then some (AV.fz (.int l.length)) else none) = _
  rw [if_pos (sl_line _ (by omega))]
@[simp] theorem un_i (i : Int) : unNeg (.int i) = some (.fz (.int (-i))) := rfl
theorem ix_nat {l : List D} {i : Int} {j : Nat} {x : D} (hi : i = (j : Int)) (h : l[j]? = some x) : ixD (.lst l) (.int i) = some (.fz x) := by
  subst hi
  show ((L2.atI l (j : Int)).map AV.fz) = _
  rw [L2.atI_nat h]; rfl
theorem ixt_nat {l : List D} {i : Int} {j : Nat} {x : D} (hi : i = (j : Int)) (h : l[j]? = some x) : ixD (.tup l) (.int i) = some (.fz x) := by
  subst hi
  show ((L2.atI l (j : Int)).map AV.fz) = _
  rw [L2.atI_nat h]; rfl
@[simp] theorem ixt0 (a : D) (l : List D) : ixD (.tup (a :: l)) (.int 0) = some (.fz a) := ixt_nat (j := 0) rfl rfl
@[simp] theorem ixt1 (a c : D) (l : List D) : ixD (.tup (a :: c :: l)) (.int 1) = some (.fz c) := ixt_nat (j := 1) rfl rfl
@[simp] theorem ixt2 (a c e : D) (l : List D) : ixD (.tup (a :: c :: e :: l)) (.int 2) = some (.fz e) := ixt_nat (j := 2) rfl rfl
theorem sl_small (n : Nat) (h : n ≤ 1000000) : n ≤ sizeLine := sl_line n (by omega)
theorem add_s {a c : Str} (h : a.length + c.length ≤ 5000) : opAdd (.str a) (.str c) = some (.fz (.str (a ++ c))) := by
  rw [opAdd_str, if_pos (sl_small _ (by omega))]
theorem sla (a c : Str) : (a ++ c).length = a.length + c.length := PySem.strLen_append a c
@[simp] theorem bind_t2 (i j : Nat) (a c : D) : bindT (.tp [.nm i, .nm j]) (.tup [a, c]) = (setFz i a).bnd fun _ => (setFz j c).bnd fun _ => M.ret () := by
  unfold bindT; simp only; unfold bindTs bindTs bindTs; simp only [bind_nm]
@[simp] theorem items_lst (l : List D) (ρ : DL.Env) : itemsOf (.lst l) ρ = .ok l ρ := rfl
@[simp] theorem items_tup (l : List D) (ρ : DL.Env) : itemsOf (.tup l) ρ = .ok l ρ := rfl
@[simp] theorem mItems_app (φ : M AV) (ρ : DL.Env) : mItems φ ρ = (φ.bnd fun av => (frz av).bnd itemsOf) ρ := rfl
/-! lengths -/
theorem n_len : ∀ n ∈ S5, n.length ≤ 3 := of5 (by decide) (by decide) (by decide) (by decide) (by decide)
theorem t_len : ∀ t ∈ T6, t.2.length ≤ 13 := of6 (by decide) (by decide) (by decide) (by decide) (by decide) (by decide)
theorem nt_tl (n : Nat) : (nt n).cps.toList = TL.numL n := TL.tl_num n
theorem nt_len {n k : Nat} (hk : 0 < k) (h : n < 10 ^ k) : (nt n).length ≤ k := by
  rw [TL.len_tl]
  show (nt n).cps.toList.length ≤ k
  rw [nt_tl]
  exact TL.numL_len hk h
/-! record_text -/
theorem ix_end (l : List D) (x : D) : ixD (.lst (l ++ [x])) (.int (-1)) = some (.fz x) := ix_last l x
def zsD (l : List Nat) : List D := l.map fun n : Nat => .int (n : Int)
theorem dist_at {ss : List Nat} {p b : Nat} (hb : b ≤ ss.length) (h0 : 0 < b) : ∃ q, ss[ss.length - b]? = some q ∧ dist (ss ++ [p]) b = p - q := by
  have hlt : ss.length - b < ss.length := by omega
  refine ⟨ss[ss.length - b], List.getElem?_eq_getElem hlt, ?_⟩
  unfold dist
  rw [if_pos h0, List.length_append, List.length_singleton]
  have e : ss.length + 1 - 1 - b = ss.length - b := by omega
  rw [e, List.getElem?_append_left hlt, List.getElem?_eq_getElem hlt]
  simp
theorem rt_item {rec : D} {ss : List Nat} {p : Nat} {acc : List D} {x3 x4 x5 : Sl} {q : Str × Nat} (hn : q.1 ∈ S5) (hb : q.2 ≤ ss.length) (hmono : ∀ u ∈ ss, u ≤ p) (hp : p < 520) (ha : acc.length ≤ 100) (h3 : isBo x3 = false) (h4 : isBo x4 = false) (h5 : isBo x5 = false) :
    ∃ ρ1, bindT (.tp [.nm 3, .nm 4]) (itD q) [.fz rec, .fz (.lst (zsD (ss ++ [p]))), .ow (.lst acc), x3, x4, x5] = .ok () ρ1 ∧
      mSeq s_record_text_7 s_record_text_8 ρ1 = .ok .nx [.fz rec, .fz (.lst (zsD (ss ++ [p]))), .ow (.lst (acc ++ [.str (itS (ss ++ [p]) q)])), .fz (.str q.1), .fz (.int q.2), .fz (.int (dist (ss ++ [p]) q.2))] := by
  refine ⟨[.fz rec, .fz (.lst (zsD (ss ++ [p]))), .ow (.lst acc), .fz (.str q.1), .fz (.int q.2), x5], ?_, ?_⟩
  · simp [itD, h3, h4]
  · have h7 : s_record_text_7 [.fz rec, .fz (.lst (zsD (ss ++ [p]))), .ow (.lst acc), .fz (.str q.1), .fz (.int q.2), x5] = .ok .nx [.fz rec, .fz (.lst (zsD (ss ++ [p]))), .ow (.lst acc), .fz (.str q.1), .fz (.int q.2), .fz (.int (dist (ss ++ [p]) q.2))] := by
      by_cases h0 : 0 < q.2
      · obtain ⟨u, eu, ed⟩ := dist_at (p := p) hb h0
        have hu := hmono u (List.mem_of_getElem? eu)
        have e1 : ixD (.lst (zsD (ss ++ [p]))) (.int (-1)) = some (.fz (.int p)) := by
          unfold zsD
          rw [List.map_append]
          exact ix_end _ _
        have e2 : ixD (.lst (zsD (ss ++ [p]))) (.int (((zsD (ss ++ [p])).length : Int) - 1 - q.2)) = some (.fz (.int u)) := by
          have hlt : ss.length - q.2 < ss.length := by omega
          refine ix_nat (j := ss.length - q.2) ?_ ?_
          · unfold zsD
            rw [List.length_map, List.length_append, List.length_singleton]
            omega
          · unfold zsD
            rw [List.getElem?_map, List.getElem?_append_left hlt, eu]
            rfl
        have h0' : (0 : Int) < (q.2 : Int) := by omega
        rw [ed]
        have e3 : (p : Int) - (u : Int) = ((p - u : Nat) : Int) := by omega
        simp [s_record_text_7, h0, e1, e2, h5, e3]
      · have z : q.2 = 0 := by omega
        simp [s_record_text_7, z, h5, dist]
    have hd : dist (ss ++ [p]) q.2 < 1000 := by
      by_cases h0 : 0 < q.2
      · obtain ⟨u, eu, ed⟩ := dist_at (p := p) hb h0
        rw [ed]; omega
      · unfold dist; rw [if_neg h0]; omega
    have hl := n_len q.1 hn
    have hk := nt_len (n := dist (ss ++ [p]) q.2) (k := 3) (by omega) (by omega)
    have h1 : (":" : Str).length = 1 := by decide
    have h8 : s_record_text_8 [.fz rec, .fz (.lst (zsD (ss ++ [p]))), .ow (.lst acc), .fz (.str q.1), .fz (.int q.2), .fz (.int (dist (ss ++ [p]) q.2))] = .ok .nx [.fz rec, .fz (.lst (zsD (ss ++ [p]))), .ow (.lst (acc ++ [.str (itS (ss ++ [p]) q)])), .fz (.str q.1), .fz (.int q.2), .fz (.int (dist (ss ++ [p]) q.2))] := by
      have hs : fStr [.int ((dist (ss ++ [p]) q.2 : Nat) : Int)] = some (.fz (.str (nt (dist (ss ++ [p]) q.2)))) := by
        show (if (((dist (ss ++ [p]) q.2 : Nat) : Int)).natAbs.log2 < 1920 then some (AV.fz (.str (toString ((dist (ss ++ [p]) q.2 : Nat) : Int)))) else none) = _
        rw [if_pos]
        · rfl
        · rw [Int.natAbs_natCast]
          by_cases hz : dist (ss ++ [p]) q.2 = 0
          · rw [hz]; decide
          · rw [Nat.log2_lt hz]
            exact Nat.lt_trans hd (by decide)
      have a1 : opAdd (.str q.1) (.str ":") = some (.fz (.str (q.1 ++ ":"))) := add_s (by omega)
      have a2 : opAdd (.str (q.1 ++ ":")) (.str (nt (dist (ss ++ [p]) q.2))) = some (.fz (.str (q.1 ++ ":" ++ nt (dist (ss ++ [p]) q.2)))) := add_s (by rw [sla]; omega)
      have hz : acc.length < sizeLine := by have := sl_small 1000000 (by omega); omega
      simp [s_record_text_8, mk_n q.1 hn, a1, a2, hs, hz, itS]
    exact (seq_nx h7).trans h8
theorem rt_loop {rec : D} {ss : List Nat} {p : Nat} (hmono : ∀ u ∈ ss, u ≤ p) (hp : p < 520) : ∀ (its : List (Str × Nat)) (acc : List D) (x3 x4 x5 : Sl), (∀ q ∈ its, q.1 ∈ S5 ∧ q.2 ≤ ss.length) → acc.length + its.length ≤ 50 → isBo x3 = false → isBo x4 = false → isBo x5 = false →
    ∃ y3 y4 y5, loopF (.tp [.nm 3, .nm 4]) (mSeq s_record_text_7 s_record_text_8) (its.map itD) [.fz rec, .fz (.lst (zsD (ss ++ [p]))), .ow (.lst acc), x3, x4, x5] = .ok .nx [.fz rec, .fz (.lst (zsD (ss ++ [p]))), .ow (.lst (acc ++ its.map fun q => .str (itS (ss ++ [p]) q))), y3, y4, y5]
  | [], acc, x3, x4, x5, _, _, _, _, _ => ⟨x3, x4, x5, by rw [List.map_nil, List.map_nil, List.append_nil]; rfl⟩
  | q :: its, acc, x3, x4, x5, h, hl, h3, h4, h5 => by
    rw [List.length_cons] at hl
    obtain ⟨hn, hb⟩ := h q List.mem_cons_self
    obtain ⟨ρ1, b1, b2⟩ := rt_item (rec := rec) (acc := acc) hn hb hmono hp (by omega) h3 h4 h5
    obtain ⟨y3, y4, y5, e⟩ := rt_loop hmono hp its (acc ++ [.str (itS (ss ++ [p]) q)]) (.fz (.str q.1)) (.fz (.int q.2)) (.fz (.int (dist (ss ++ [p]) q.2))) (fun z hz => h z (List.mem_cons_of_mem _ hz)) (by rw [List.length_append, List.length_singleton]; omega) rfl rfl rfl
    refine ⟨y3, y4, y5, ?_⟩
    rw [List.map_cons, List.map_cons, loop_cons b1 (.inl b2), e, List.append_assoc]
    rfl
theorem strsOf_map : ∀ l : List Str, strsOf (l.map .str) = some l
  | [] => rfl
  | a :: l => by
    show (strsOf (l.map .str)).map (fun l => a :: l) = _
    rw [strsOf_map l]
    rfl
theorem join_s {c : Str} {l : List Str} (h : (l.map (·.length)).sum + l.length * c.length ≤ 5000) : sJoin (.str c) [.lst (l.map .str)] = some (.fz (.str (Txt.join c l))) := by
  show sJoinL c (l.map .str) = _
  unfold sJoinL
  rw [strsOf_map]
  show (if (l.map (·.length)).sum + l.length * c.length ≤ 16777216 then some (AV.fz (.str (Txt.join c l))) else none) = _
  rw [if_pos (by omega)]
theorem itS_len {ss : List Nat} {p : Nat} {q : Str × Nat} (hn : q.1 ∈ S5) (hp : p < 520) (hm : ∀ u ∈ ss ++ [p], u ≤ p) : (itS (ss ++ [p]) q).length ≤ 7 := by
  have hl := n_len q.1 hn
  have h1 : (":" : Str).length = 1 := by decide
  have hd : dist (ss ++ [p]) q.2 < 1000 := by
    unfold dist
    split
    · rw [List.getLast?_append, List.getLast?_singleton]
      show (p : Nat) - _ < 1000
      omega
    · omega
  have hk := nt_len (n := dist (ss ++ [p]) q.2) (k := 3) (by omega) (by omega)
  unfold itS
  rw [sla, sla]
  omega
theorem sum_le {α : Type} {f : α → Nat} {k : Nat} : ∀ {l : List α}, (∀ a ∈ l, f a ≤ k) → (l.map f).sum ≤ l.length * k
  | [], _ => by simp
  | a :: l, h => by
    have := sum_le (l := l) fun b hb => h b (List.mem_cons_of_mem _ hb)
    have h1 := h a List.mem_cons_self
    rw [List.map_cons, List.sum_cons, List.length_cons, Nat.add_mul]
    omega
theorem join_len (c : Str) : ∀ l : List Str, (Txt.join c l).length ≤ (l.map (·.length)).sum + l.length * c.length
  | [] => by rw [TL.join_eq]; show (0 : Nat) ≤ _; exact Nat.zero_le _
  | [a] => by
    rw [TL.join_eq]
    show a.length ≤ _
    simp
  | a :: d :: r => by
    have ih := join_len c (d :: r)
    rw [TL.join_eq] at ih ⊢
    show (a ++ c ++ Str.join c (d :: r)).length ≤ _
    rw [sla, sla, List.map_cons, List.sum_cons, List.length_cons, Nat.add_mul]
    omega
theorem eq_ss (a c : Str) (h : a ≠ c) : opEq (.str a) (.str c) = some (.fz (.bl false)) := by simp [h]
theorem rt_run {pre : List Rc} {r : Rc} {ss : List Nat} {p : Nat} (v : VR pre r) (hl : ss.length = pre.length) (hmono : ∀ u ∈ ss, u ≤ p) (hp : p < 520) : F_record_text [.fz r.d, .fz (.lst (zsD (ss ++ [p])))] = .ok false (.str (piece (ss ++ [p]) r ++ ";")) [] := by
  have k1 : (";" : Str).length = 1 := by decide
  have k2 : (":" : Str).length = 1 := by decide
  have k3 : ("h" : Str).length = 1 := by decide
  have k4 : ("s" : Str).length = 1 := by decide
  have k5 : ("l" : Str).length = 1 := by decide
  have k6 : ("," : Str).length = 1 := by decide
  cases r with
  | hd n t =>
    obtain ⟨hn, ht⟩ := v
    have l1 := n_len n hn
    have l2 := t_len t ht
    have a1 : opAdd (.str "h") (.str n) = some (.fz (.str ("h" ++ n))) := add_s (by omega)
    have a2 : opAdd (.str ("h" ++ n)) (.str ":") = some (.fz (.str ("h" ++ n ++ ":"))) := add_s (by rw [sla]; omega)
    have a3 : opAdd (.str ("h" ++ n ++ ":")) (.str t.2) = some (.fz (.str ("h" ++ n ++ ":" ++ t.2))) := add_s (by rw [sla, sla]; omega)
    have a4 : opAdd (.str ("h" ++ n ++ ":" ++ t.2)) (.str ";") = some (.fz (.str ("h" ++ n ++ ":" ++ t.2 ++ ";"))) := add_s (by rw [sla, sla, sla]; omega)
    have h1 : s_record_text_1 [.fz (Rc.hd n t).d, .fz (.lst (zsD (ss ++ [p]))), .un, .un, .un, .un] = .ok (.rt (.fz (.str (piece (ss ++ [p]) (.hd n t) ++ ";")))) [.fz (Rc.hd n t).d, .fz (.lst (zsD (ss ++ [p]))), .un, .un, .un, .un] := by
      simp [s_record_text_1, s_record_text_2, Rc.d, mk_n n hn, tx_t t ht, a1, a2, a3, a4, piece]
    show runB 6 φ_record_text [.fz (Rc.hd n t).d, .fz (.lst (zsD (ss ++ [p])))] = _
    exact runB_fz (N := 6) (φ := φ_record_text) (ks := [.fz (Rc.hd n t).d, .fz (.lst (zsD (ss ++ [p])))]) (show φ_record_text [.fz (Rc.hd n t).d, .fz (.lst (zsD (ss ++ [p]))), .un, .un, .un, .un] = _ from seq_rt h1)
  | st n =>
    have hn : n ∈ S5 := v
    have l1 := n_len n hn
    have a1 : opAdd (.str "s") (.str n) = some (.fz (.str ("s" ++ n))) := add_s (by omega)
    have a2 : opAdd (.str ("s" ++ n)) (.str ";") = some (.fz (.str ("s" ++ n ++ ";"))) := add_s (by rw [sla]; omega)
    have h1 : s_record_text_1 [.fz (Rc.st n).d, .fz (.lst (zsD (ss ++ [p]))), .un, .un, .un, .un] = .ok .nx [.fz (Rc.st n).d, .fz (.lst (zsD (ss ++ [p]))), .un, .un, .un, .un] := by
      simp (decide := true) [s_record_text_1, Rc.d]
    have h2 : s_record_text_3 [.fz (Rc.st n).d, .fz (.lst (zsD (ss ++ [p]))), .un, .un, .un, .un] = .ok (.rt (.fz (.str (piece (ss ++ [p]) (.st n) ++ ";")))) [.fz (Rc.st n).d, .fz (.lst (zsD (ss ++ [p]))), .un, .un, .un, .un] := by
      simp (decide := true) [s_record_text_3, s_record_text_4, Rc.d, mk_n n hn, a1, a2, piece]
    show runB 6 φ_record_text [.fz (Rc.st n).d, .fz (.lst (zsD (ss ++ [p])))] = _
    exact runB_fz (N := 6) (φ := φ_record_text) (ks := [.fz (Rc.st n).d, .fz (.lst (zsD (ss ++ [p])))]) (show φ_record_text [.fz (Rc.st n).d, .fz (.lst (zsD (ss ++ [p]))), .un, .un, .un, .un] = _ from (seq_nx h1).trans (seq_rt h2))
  | ls its =>
    obtain ⟨h5, _, hq⟩ := v
    have hq' : ∀ q ∈ its, q.1 ∈ S5 ∧ q.2 ≤ ss.length := fun q hm => by
      obtain ⟨a, _, c⟩ := hq q hm
      refine ⟨a, ?_⟩
      rcases c with c | ⟨c, _⟩ <;> omega
    have hm2 : ∀ u ∈ ss ++ [p], u ≤ p := fun u hu => by
      rcases List.mem_append.mp hu with h | h
      · exact hmono u h
      · rw [List.mem_singleton.mp h]; exact Nat.le_refl _
    obtain ⟨y3, y4, y5, e⟩ := rt_loop (rec := (Rc.ls its).d) hmono hp its [] .un .un .un hq' (by rw [List.length_nil]; omega) rfl rfl rfl
    have sl : (its.map (itS (ss ++ [p]))).map (·.length) = its.map fun q => (itS (ss ++ [p]) q).length := by rw [List.map_map]; rfl
    have sm : ((its.map (itS (ss ++ [p]))).map (·.length)).sum + (its.map (itS (ss ++ [p]))).length * (",":Str).length ≤ 100 := by
      have z := sum_le (l := its) (f := fun q => (itS (ss ++ [p]) q).length) (k := 7) fun q hm => itS_len (hq' q hm).1 hp hm2
      rw [sl, List.length_map, k6]
      omega
    have jl := join_len "," (its.map (itS (ss ++ [p])))
    have h1 : s_record_text_1 [.fz (Rc.ls its).d, .fz (.lst (zsD (ss ++ [p]))), .un, .un, .un, .un] = .ok .nx [.fz (Rc.ls its).d, .fz (.lst (zsD (ss ++ [p]))), .un, .un, .un, .un] := by
      simp (decide := true) [s_record_text_1, Rc.d]
    have h2 : s_record_text_3 [.fz (Rc.ls its).d, .fz (.lst (zsD (ss ++ [p]))), .un, .un, .un, .un] = .ok .nx [.fz (Rc.ls its).d, .fz (.lst (zsD (ss ++ [p]))), .un, .un, .un, .un] := by
      simp (decide := true) [s_record_text_3, Rc.d]
    have h3 : s_record_text_5 [.fz (Rc.ls its).d, .fz (.lst (zsD (ss ++ [p]))), .un, .un, .un, .un] = .ok .nx [.fz (Rc.ls its).d, .fz (.lst (zsD (ss ++ [p]))), .ow (.lst []), .un, .un, .un] := by
      simp [s_record_text_5]
    have h4 : s_record_text_6 [.fz (Rc.ls its).d, .fz (.lst (zsD (ss ++ [p]))), .ow (.lst []), .un, .un, .un] = .ok .nx [.fz (Rc.ls its).d, .fz (.lst (zsD (ss ++ [p]))), .ow (.lst ((its.map (itS (ss ++ [p]))).map .str)), y3, y4, y5] := by
      have hi : mItems (mOp ixD (mVar 0) (mC (.int 1))) [.fz (Rc.ls its).d, .fz (.lst (zsD (ss ++ [p]))), .ow (.lst []), .un, .un, .un] = .ok (its.map itD) [.fz (Rc.ls its).d, .fz (.lst (zsD (ss ++ [p]))), .ow (.lst []), .un, .un, .un] := by
        simp [Rc.d]
      unfold s_record_text_6
      rw [for_run hi, e, List.nil_append, List.map_map]
      rfl
    have a1 : opAdd (.str "l") (.str (Txt.join "," (its.map (itS (ss ++ [p]))))) = some (.fz (.str ("l" ++ Txt.join "," (its.map (itS (ss ++ [p])))))) := add_s (by omega)
    have a2 : opAdd (.str ("l" ++ Txt.join "," (its.map (itS (ss ++ [p]))))) (.str ";") = some (.fz (.str ("l" ++ Txt.join "," (its.map (itS (ss ++ [p]))) ++ ";"))) := add_s (by rw [sla]; omega)
    have jn : sJoin (.str ",") [.lst ((its.map (itS (ss ++ [p]))).map .str)] = _ := join_s (c := ",") (l := its.map (itS (ss ++ [p]))) (by omega)
    have h6 : s_record_text_9 [.fz (Rc.ls its).d, .fz (.lst (zsD (ss ++ [p]))), .ow (.lst ((its.map (itS (ss ++ [p]))).map .str)), y3, y4, y5] = .ok (.rt (.fz (.str (piece (ss ++ [p]) (.ls its) ++ ";")))) [.fz (Rc.ls its).d, .fz (.lst (zsD (ss ++ [p]))), .ow (.lst ((its.map (itS (ss ++ [p]))).map .str)), y3, y4, y5] := by
      generalize hg : (its.map (itS (ss ++ [p]))).map D.str = g at jn ⊢
      simp [s_record_text_9, jn, a1, a2, piece]
    show runB 6 φ_record_text [.fz (Rc.ls its).d, .fz (.lst (zsD (ss ++ [p])))] = _
    exact runB_fz (N := 6) (φ := φ_record_text) (ks := [.fz (Rc.ls its).d, .fz (.lst (zsD (ss ++ [p])))]) (show φ_record_text [.fz (Rc.ls its).d, .fz (.lst (zsD (ss ++ [p]))), .un, .un, .un, .un] = _ from (seq_nx h1).trans ((seq_nx h2).trans ((seq_nx h3).trans ((seq_nx h4).trans h6))))
end LW

namespace LW
open PySem DL
/-! ### show -/
def arc (ds : List D) (K : List (D × D)) : D := .ins "Archive" [("kept_records", .lst ds), ("headed", .dct K)]
theorem fld_kept (ds : List D) (K : List (D × D)) : fldD "Archive" "kept_records" (arc ds K) = some (.fz (.lst ds)) := rfl
@[simp] theorem mFld_app (c f : Str) (φ : M AV) (ρ : DL.Env) : mFld c f φ ρ = (φ.bnd fun a => (rd (stab a)).bnd fun d => lift (fldD c f d)) ρ := rfl
@[simp] theorem fList_l (l : List D) : fList [.lst l] = some (.ow (.lst l)) := rfl
theorem recs_run (ds : List D) (K : List (D × D)) : F_Archive_records [.fz (arc ds K)] = .ok true (.lst ds) [] := by
  show runB 1 φ_Archive_records [.fz (arc ds K)] = _
  refine runB_ow (N := 1) (φ := φ_Archive_records) (ks := [.fz (arc ds K)]) (ρ' := [.fz (arc ds K)]) ?_
  show s_Archive_records_1 [.fz (arc ds K)] = _
  simp [s_Archive_records_1, fld_kept]
/-- what stands behind the records so far -/
def St (pre : List Rc) (s : List Nat × Str) : Prop := s.1.length = pre.length ∧ (∀ u ∈ s.1, u ≤ s.2.length) ∧ s.2.length ≤ 42 * pre.length
theorem St.nil : St [] ([], "") := ⟨rfl, fun u h => absurd h List.not_mem_nil, by decide⟩
theorem piece_len {pre : List Rc} {r : Rc} {ss : List Nat} {p : Nat} (v : VR pre r) (hl : ss.length = pre.length) (hm : ∀ u ∈ ss, u ≤ p) (hp : p < 520) : (piece (ss ++ [p]) r).length ≤ 41 := by
  have k2 : (":" : Str).length = 1 := by decide
  have k3 : ("h" : Str).length = 1 := by decide
  have k4 : ("s" : Str).length = 1 := by decide
  have k5 : ("l" : Str).length = 1 := by decide
  have k6 : ("," : Str).length = 1 := by decide
  cases r with
  | hd n t =>
    have l1 := n_len n v.1
    have l2 := t_len t v.2
    show (("h" : Str) ++ n ++ ":" ++ t.2).length ≤ 41
    rw [sla, sla, sla]
    omega
  | st n =>
    have l1 := n_len n v
    show (("s" : Str) ++ n).length ≤ 41
    rw [sla]
    omega
  | ls its =>
    obtain ⟨h5, _, hq⟩ := v
    have hm2 : ∀ u ∈ ss ++ [p], u ≤ p := fun u hu => by
      rcases List.mem_append.mp hu with h | h
      · exact hm u h
      · rw [List.mem_singleton.mp h]; exact Nat.le_refl _
    have sl : (its.map (itS (ss ++ [p]))).map (·.length) = its.map fun q => (itS (ss ++ [p]) q).length := by rw [List.map_map]; rfl
    have z := sum_le (l := its) (f := fun q => (itS (ss ++ [p]) q).length) (k := 7) fun q h => itS_len (hq q h).1 hp hm2
    have jl := join_len "," (its.map (itS (ss ++ [p])))
    rw [sl, List.length_map, k6] at jl
    show (("l" : Str) ++ Txt.join "," (its.map (itS (ss ++ [p])))).length ≤ 41
    rw [sla]
    omega
theorem St.step {pre : List Rc} {r : Rc} {s : List Nat × Str} (h : St pre s) (v : VR pre r) (hn : pre.length < 12) : St (pre ++ [r]) (go1 s r) := by
  obtain ⟨h1, h2, h3⟩ := h
  have k1 : (";" : Str).length = 1 := by decide
  have pl := piece_len (p := s.2.length) v h1 h2 (by omega)
  have el : (go1 s r).2.length = s.2.length + ((piece (s.1 ++ [s.2.length]) r).length + 1) := by
    show (s.2 ++ (piece (s.1 ++ [s.2.length]) r ++ ";")).length = _
    rw [sla, sla, k1]
  refine ⟨?_, fun u hu => ?_, ?_⟩
  · show (s.1 ++ [s.2.length]).length = _
    rw [List.length_append, List.length_append, h1]
    rfl
  · rw [el]
    rcases List.mem_append.mp (show u ∈ s.1 ++ [s.2.length] from hu) with h | h
    · have := h2 u h; omega
    · rw [List.mem_singleton.mp h]; omega
  · rw [el, List.length_append, List.length_singleton]
    omega
theorem St.run : ∀ {rs pre : List Rc} {s : List Nat × Str}, St pre s → VA pre rs → pre.length + rs.length ≤ 12 → St (pre ++ rs) (go s rs)
  | [], pre, s, h, _, _ => by rw [List.append_nil]; exact h
  | r :: rs, pre, s, h, v, hl => by
    rw [List.length_cons] at hl
    have z := St.run (h.step v.1 (by omega)) v.2 (by rw [List.length_append, List.length_singleton]; omega)
    rw [List.append_assoc] at z
    exact z
def LsOf (s : Sl) (l : List D) : Prop := s = .ow (.lst l) ∨ s = .fz (.lst l)
theorem zsD_app (a b : List Nat) : zsD (a ++ b) = zsD a ++ zsD b := List.map_append
theorem add_l {a c : List D} (h : a.length + c.length ≤ 5000) : opAdd (.lst a) (.lst c) = some (.ow (.lst (a ++ c))) := by
  show (if a.length + c.length ≤ sizeLine then some (AV.ow (.lst (a ++ c))) else none) = _
  rw [if_pos (sl_small _ (by omega))]
theorem show_loop {A : D} : ∀ (rs pre : List Rc) (s : List Nat × Str) (x2 x3 : Sl), St pre s → VA pre rs → pre.length + rs.length ≤ 12 → LsOf x2 (zsD s.1) → isBo x3 = false →
    ∃ y2 y3, loopF (.nm 3) (mSeq s_show_3 s_show_4) (rs.map Rc.d) [.fz A, .fz (.str s.2), x2, x3] = .ok .nx [.fz A, .fz (.str (go s rs).2), y2, y3]
  | [], pre, s, x2, x3, _, _, _, _, _ => ⟨x2, x3, rfl⟩
  | r :: rs, pre, s, x2, x3, h, v, hl, h2, h3 => by
    rw [List.length_cons] at hl
    obtain ⟨h1, hm, hx⟩ := h
    have k1 : (";" : Str).length = 1 := by decide
    have pl := piece_len (p := s.2.length) v.1 h1 hm (by omega)
    have b1 : bindT (.nm 3) r.d [.fz A, .fz (.str s.2), x2, x3] = .ok () [.fz A, .fz (.str s.2), x2, .fz r.d] := by simp [h3]
    have e3 : s_show_3 [.fz A, .fz (.str s.2), x2, .fz r.d] = .ok .nx [.fz A, .fz (.str s.2), .ow (.lst (zsD (s.1 ++ [s.2.length]))), .fz r.d] := by
      have ln : fLen [.str s.2] = some (.fz (.int s.2.length)) := len_s (by omega)
      have s1 : (1 : Nat) ≤ sizeLine := sl_small 1 (by omega)
      have a1 : opAdd (.lst (zsD s.1)) (.lst [.int s.2.length]) = some (.ow (.lst (zsD (s.1 ++ [s.2.length])))) := by
        rw [add_l (by rw [show (zsD s.1).length = s.1.length from List.length_map _, List.length_singleton]; omega), zsD_app]
        rfl
      rcases h2 with rfl | rfl <;> simp [s_show_3, ln, a1, s1]
    have hs : (s.2).length + (piece (s.1 ++ [s.2.length]) r ++ ";").length ≤ 5000 := by rw [sla]; omega
    have a2 : opAdd (.str s.2) (.str (piece (s.1 ++ [s.2.length]) r ++ ";")) = some (.fz (.str (s.2 ++ (piece (s.1 ++ [s.2.length]) r ++ ";")))) := add_s hs
    have e4 : s_show_4 [.fz A, .fz (.str s.2), .ow (.lst (zsD (s.1 ++ [s.2.length]))), .fz r.d] = .ok .nx [.fz A, .fz (.str (go1 s r).2), .fz (.lst (zsD (s.1 ++ [s.2.length]))), .fz r.d] := by
      have rt := rt_run (r := r) v.1 h1 hm (show s.2.length < 520 by omega)
      simp [s_show_4, rt, a2, go1]
    obtain ⟨y2, y3, e⟩ := show_loop rs (pre ++ [r]) (go1 s r) (.fz (.lst (zsD (s.1 ++ [s.2.length])))) (.fz r.d) (St.step ⟨h1, hm, hx⟩ v.1 (by omega)) v.2 (by rw [List.length_append, List.length_singleton]; omega) (.inr rfl) rfl
    refine ⟨y2, y3, ?_⟩
    rw [List.map_cons, loop_cons b1 (.inl ((seq_nx e3).trans e4)), e]
    rfl
def txt (rs : List Rc) : Str := (go ([], "") rs).2
theorem show_run {rs : List Rc} (v : VA [] rs) (hl : rs.length ≤ 12) (K : List (D × D)) : F_show [.fz (arc (rs.map Rc.d) K)] = .ok false (.str (txt rs)) [] := by
  generalize hA : arc (rs.map Rc.d) K = A
  have h1 : s_show_1 [.fz A, .un, .un, .un] = .ok .nx [.fz A, .fz (.str ""), .ow (.lst []), .un] := by simp [s_show_1]
  obtain ⟨y2, y3, e⟩ := show_loop (A := A) rs [] ([], "") (.ow (.lst [])) .un St.nil v (by rw [List.length_nil]; omega) (.inl rfl) rfl
  have hi : mItems (mProp "Archive" "records" .fz F_Archive_records (mVar 0)) [.fz A, .fz (.str ""), .ow (.lst []), .un] = .ok (rs.map Rc.d) [.fz A, .fz (.str ""), .ow (.lst []), .un] := by
    have rr := recs_run (rs.map Rc.d) K
    rw [hA] at rr
    have hi : (insF "Archive" A).isSome = true := by rw [← hA]; rfl
    generalize rs.map Rc.d = g at rr hi ⊢
    simp [mProp, rr, hi]
  have h2 : s_show_2 [.fz A, .fz (.str ""), .ow (.lst []), .un] = .ok .nx [.fz A, .fz (.str (txt rs)), y2, y3] := by
    unfold s_show_2
    rw [for_run hi, e]
    rfl
  have h3 : s_show_5 [.fz A, .fz (.str (txt rs)), y2, y3] = .ok (.rt (.sl 1)) [.fz A, .fz (.str (txt rs)), y2, y3] := by simp [s_show_5]
  show runB 4 φ_show [.fz A] = _
  exact runB_sf (N := 4) (φ := φ_show) (ks := [.fz A]) (i := 1) (show φ_show [.fz A, .un, .un, .un] = _ from (seq_nx h1).trans ((seq_nx h2).trans h3)) rfl
end LW

namespace LW
open PySem DL
/-! ### is_record, Archive -/
def HD (pre : List Rc) (K : List (D × D)) : Prop := K.length ≤ pre.length ∧ ∀ n : Str, ∃ l : List Nat, (getK K (.inr n) = some (.lst (zsD l)) ∨ (getK K (.inr n) = none ∧ l = [])) ∧ l.length ≤ pre.length ∧ ∀ j, isHd pre n j → j + 1 ∈ l
theorem HD.at_ {pre : List Rc} {K : List (D × D)} {n : Str} {j : Nat} (h : HD pre K) (hj : isHd pre n j) : ∃ l : List Nat, getK K (.inr n) = some (.lst (zsD l)) ∧ ∀ j, isHd pre n j → j + 1 ∈ l := by
  obtain ⟨l, e, _, m⟩ := h.2 n
  rcases e with e | ⟨_, rfl⟩
  · exact ⟨l, e, m⟩
  · exact absurd (m j hj) List.not_mem_nil
theorem eqD_i (i j : Int) (n : Nat) : eqD (.int i) n (.int j) = some (decide (i = j)) := by
  unfold eqD
  by_cases h : i = j
  · subst h; simp [fl, L2.eqV]
  · simp [fl, L2.eqV, h]
theorem any_i (i : Int) : ∀ l : List Nat, ∃ c, anyEq (.int i) (zsD l) = some c ∧ ((∃ k ∈ l, (k : Int) = i) → c = true)
  | [] => ⟨false, rfl, fun ⟨k, hk, _⟩ => absurd hk List.not_mem_nil⟩
  | k :: l => by
    obtain ⟨c, e, h⟩ := any_i i l
    show ∃ c, anyEq (.int i) (.int (k : Int) :: zsD l) = some c ∧ _
    unfold anyEq
    rw [eqD_i]
    by_cases hk : (k : Int) = i
    · rw [decide_eq_true hk]
      exact ⟨true, by simp only [e]; rfl, fun _ => rfl⟩
    · rw [decide_eq_false hk]
      refine ⟨c, by simp only [e], fun ⟨k', hm, he⟩ => ?_⟩
      rcases List.mem_cons.mp hm with rfl | hm
      · exact absurd he hk
      · exact h ⟨k', hm, he⟩
theorem in_i {i : Int} {l : List Nat} (h : ∃ k ∈ l, (k : Int) = i) : opIn (.int i) (.lst (zsD l)) = some (.fz (.bl true)) := by
  obtain ⟨c, e, hc⟩ := any_i i l
  show ((anyEq (.int i) (zsD l)).map fun b => AV.fz (.bl b)) = _
  rw [e, hc h]
  rfl
@[simp] theorem mIsi_app (f : D → Option Bool) (φ : M AV) (ρ : DL.Env) : mIsi f φ ρ = (φ.bnd fun a => (rd (stab a)).bnd fun d => lift ((f d).map fun r => .fz (.bl r))) ρ := rfl
@[simp] theorem mAndV_app (φ ψ : M AV) (ρ : DL.Env) : mAndV φ ψ ρ = (φ.bnd fun a => (rd a).bnd fun d => match d with
  | .bl true => ψ
  | .bl false => M.ret (.fz (.bl false))
  | _ => M.stuck) ρ := rfl
@[simp] theorem mOrV_app (φ ψ : M AV) (ρ : DL.Env) : mOrV φ ψ ρ = (φ.bnd fun a => (rd a).bnd fun d => match d with
  | .bl false => ψ
  | .bl true => M.ret (.fz (.bl true))
  | _ => M.stuck) ρ := rfl
@[simp] theorem isi_tt (l : List D) : isiB "tuple" (.tup l) = some true := rfl
@[simp] theorem isi_ss (l : Str) : isiB "str" (.str l) = some true := rfl
@[simp] theorem isi_ll (l : List D) : isiB "list" (.lst l) = some true := rfl
theorem within_run {v n : Int} (h0 : 0 ≤ v) (h1 : v ≤ n) : F_within [.fz (.int v), .fz (.int 0), .fz (.int n)] = .ok false (.bl true) [] := by
  have hi : F_is_integer [.fz (.int v)] = .ok false (.bl true) [] := rfl
  show runB 3 φ_within _ = _
  refine runB_fz (N := 3) (φ := φ_within) (ks := [.fz (.int v), .fz (.int 0), .fz (.int n)]) (ρ' := [.fz (.int v), .fz (.int 0), .fz (.int n)]) ?_
  show s_within_1 _ = _
  simp [s_within_1, hi, mChain, h0, h1]
theorem item_run {pre : List Rc} {K : List (D × D)} {q : Str × Nat} (hK : HD pre K) (hh : ∃ j, isHd pre q.1 j) (hb : q.2 = 0 ∨ (q.2 ≤ pre.length ∧ isHd pre q.1 (pre.length - q.2))) : F_is_item [.fz (itD q), .fz (.int ((pre.length : Int) + 1)), .bo (.dct K)] = .ok false (.bl true) [.dct K] := by
  obtain ⟨j, hj⟩ := hh
  obtain ⟨l, e, hm⟩ := hK.at_ hj
  have hle : q.2 ≤ pre.length := by rcases hb with h | ⟨h, _⟩ <;> omega
  have w := within_run (v := (q.2 : Int)) (n := (pre.length : Int) + 1) (by omega) (by omega)
  have w0 := within_run (v := 0) (n := (pre.length : Int) + 1) (by omega) (by omega)
  have h1 : s_is_item_1 [.fz (itD q), .fz (.int ((pre.length : Int) + 1)), .bo (.dct K)] = .ok .nx [.fz (itD q), .fz (.int ((pre.length : Int) + 1)), .bo (.dct K)] := by
    simp [s_is_item_1, itD, e]
  have h2 : s_is_item_3 [.fz (itD q), .fz (.int ((pre.length : Int) + 1)), .bo (.dct K)] = .ok (.rt (.fz (.bl true))) [.fz (itD q), .fz (.int ((pre.length : Int) + 1)), .bo (.dct K)] := by
    rcases hb with h | ⟨h, hd⟩
    · simp [s_is_item_3, itD, h, w0]
    · by_cases hz : q.2 = 0
      · simp [s_is_item_3, itD, hz, w0]
      · have i1 := in_i (i := (pre.length : Int) + 1 - q.2) (l := l) ⟨pre.length - q.2 + 1, hm _ hd, by omega⟩
        have hz' : ¬ ((q.2 : Int) = 0) := by omega
        simp [s_is_item_3, itD, hz, w, e, i1]
  show runB 3 φ_is_item _ = _
  exact runB_fz (N := 3) (φ := φ_is_item) (ks := [.fz (itD q), .fz (.int ((pre.length : Int) + 1)), .bo (.dct K)]) (show φ_is_item _ = _ from (seq_nx h1).trans h2)
theorem bls_all {α : Type} : ∀ l : List α, blsOf (l.map fun _ => D.bl true) = some (l.map fun _ => true)
  | [] => rfl
  | a :: l => by
    show (blsOf (l.map fun _ => D.bl true)).map (fun l => true :: l) = _
    rw [bls_all l]
    rfl
theorem all_t {α : Type} (l : List α) : fAll [.lst (l.map fun _ => D.bl true)] = some (.fz (.bl true)) := by
  show ((blsOf (l.map fun _ => D.bl true)).map fun bs => AV.fz (.bl (bs.all id))) = _
  rw [bls_all]
  show some (AV.fz (.bl _)) = _
  rw [show (l.map fun _ => true).all id = true from List.all_eq_true.mpr fun x hx => by obtain ⟨_, _, rfl⟩ := List.mem_map.mp hx; rfl]
theorem zip_mem : ∀ {l m : List D} {d : D}, d ∈ zipD l m → ∃ (i : Nat) (a c : D), l[i]? = some a ∧ m[i]? = some c ∧ d = .tup [a, c]
  | [], _, d, h => by unfold zipD at h; cases h
  | _ :: _, [], d, h => by unfold zipD at h; cases h
  | a :: l, c :: m, d, h => by
    unfold zipD at h
    rcases List.mem_cons.mp h with rfl | h
    · exact ⟨0, a, c, rfl, rfl, rfl⟩
    · obtain ⟨i, a', c', h1, h2, h3⟩ := zip_mem h
      exact ⟨i + 1, a', c', by simpa using h1, by simpa using h2, h3⟩
theorem zip_len : ∀ (l m : List D), (zipD l m).length ≤ l.length
  | [], _ => by unfold zipD; exact Nat.le_refl _
  | _ :: _, [] => by unfold zipD; exact Nat.zero_le _
  | a :: l, c :: m => by
    unfold zipD
    rw [List.length_cons, List.length_cons]
    exact Nat.succ_le_succ (zip_len l m)
theorem items_run {pre : List Rc} {K : List (D × D)} {its : List (Str × Nat)} (hK : HD pre K) (v : VR pre (.ls its)) : F_are_items [.fz (.tup (its.map itD)), .fz (.int ((pre.length : Int) + 1)), .bo (.dct K)] = .ok false (.bl true) [.dct K] := by
  obtain ⟨h5, hs, hq⟩ := v
  generalize hn : (pre.length : Int) + 1 = N at *
  have i1 : mItems (mVar 0) [.fz (.tup (its.map itD)), .fz (.int N), .bo (.dct K), .un, .un, .un] = .ok (its.map itD) [.fz (.tup (its.map itD)), .fz (.int N), .bo (.dct K), .un, .un, .un] := by simp
  have c1 : mComp (mItems (mVar 0)) [3] (.nm 3) (M.ret true) (mCallF 3 F_is_item (mRc .fz (mVar 3) (mRc .fz (mVar 1) (mRc .keep (mVar 2) mNil)))) [.fz (.tup (its.map itD)), .fz (.int N), .bo (.dct K), .un, .un, .un] = .ok (.ow (.lst ((its.map itD).map fun _ => D.bl true))) [.fz (.tup (its.map itD)), .fz (.int N), .bo (.dct K), .un, .un, .un] := by
    rw [comp_map (s := .un) i1 rfl rfl (fun _ => D.bl true) (fun d hd => ?_) (by rw [List.length_map]; omega)]
    · rfl
    · obtain ⟨q, hm, rfl⟩ := List.mem_map.mp hd
      obtain ⟨_, hh, hb⟩ := hq q hm
      have r := item_run hK hh hb
      rw [hn] at r
      refine ⟨.fz (.bl true), ?_, rfl⟩
      simp [r]
  have h1 : s_are_items_1 [.fz (.tup (its.map itD)), .fz (.int N), .bo (.dct K), .un, .un, .un] = .ok .nx [.fz (.tup (its.map itD)), .fz (.int N), .bo (.dct K), .un, .un, .un] := by
    have a1 := all_t (its.map itD)
    generalize hg : its.map itD = g at c1 a1 ⊢
    simp [s_are_items_1, c1, a1]
  have sl1 : mSl (mVar 0) (some (mC (.int 1))) none [.fz (.tup (its.map itD)), .fz (.int N), .bo (.dct K), .un, .un, .un] = .ok (.fz (.tup ((its.map itD).drop 1))) [.fz (.tup (its.map itD)), .fz (.int N), .bo (.dct K), .un, .un, .un] := by
    generalize its.map itD = g
    have e : slD (.tup g) (some 1) none = some (.fz (.tup (g.drop 1))) := by
      show some (AV.fz (.tup ((g.drop (HT.sIx g.length 0 (some 1))).take (HT.sIx g.length g.length none - HT.sIx g.length 0 (some 1))))) = _
      have e1 : HT.sIx g.length 0 (some 1) = min 1 g.length := rfl
      have e2 : HT.sIx g.length g.length none = g.length := rfl
      rw [e1, e2]
      congr 3
      cases g with
      | nil => rfl
      | cons a r =>
        rw [List.length_cons, Nat.min_eq_left (by omega), List.drop_one, List.tail_cons, List.take_of_length_le (by omega)]
    show ((mVar 0).bnd _) _ = _
    simp [mEdge, edgeD, e]
  have i2 : mItf zip2A (mCons (mVar 0) (mCons (mSl (mVar 0) (some (mC (.int 1))) none) mNil)) [.fz (.tup (its.map itD)), .fz (.int N), .bo (.dct K), .un, .un, .un] = .ok (zipD (its.map itD) ((its.map itD).drop 1)) [.fz (.tup (its.map itD)), .fz (.int N), .bo (.dct K), .un, .un, .un] := by
    generalize its.map itD = g at sl1 ⊢
    show ((mCons (mVar 0) _).bnd _) _ = _
    simp [sl1, zip2A]
  have c2 : mComp (mItf zip2A (mCons (mVar 0) (mCons (mSl (mVar 0) (some (mC (.int 1))) none) mNil))) [4, 5] (.tp [(.nm 4), (.nm 5)]) (M.ret true) (mOp opLt (mOp ixD (mVar 4) (mC (.int 0))) (mOp ixD (mVar 5) (mC (.int 0)))) [.fz (.tup (its.map itD)), .fz (.int N), .bo (.dct K), .un, .un, .un] = .ok (.ow (.lst ((zipD (its.map itD) ((its.map itD).drop 1)).map fun _ => D.bl true))) [.fz (.tup (its.map itD)), .fz (.int N), .bo (.dct K), .un, .un, .un] := by
    have zl := zip_len (its.map itD) ((its.map itD).drop 1)
    rw [List.length_map] at zl
    have key := comp_gen (own := [4, 5]) (t := .tp [(.nm 4), (.nm 5)]) (τ := M.ret true) (φ := mOp opLt (mOp ixD (mVar 4) (mC (.int 0))) (mOp ixD (mVar 5) (mC (.int 0)))) (ρ1 := [.fz (.tup (its.map itD)), .fz (.int N), .bo (.dct K), .un, .un, .un]) i2 rfl (fun _ => some (D.bl true)) (fun d hd => ?_) (by omega)
    · rw [key]
      show R.ok (AV.ow (.lst (List.filterMap (some ∘ fun _ => D.bl true) _))) _ = _
      rw [List.filterMap_eq_map]
      rfl
    · obtain ⟨i, a, c, h1, h2, rfl⟩ := zip_mem hd
      rw [List.getElem?_map] at h1
      rw [List.getElem?_drop, List.getElem?_map] at h2
      obtain ⟨q, eq, rfl⟩ := Option.map_eq_some_iff.mp h1
      obtain ⟨q2, eq2, rfl⟩ := Option.map_eq_some_iff.mp h2
      have hlt : q.1.cps.toList < q2.1.cps.toList := by
        obtain ⟨g1, e1⟩ := List.getElem?_eq_some_iff.mp eq
        obtain ⟨g2, e2⟩ := List.getElem?_eq_some_iff.mp eq2
        have z := List.pairwise_iff_getElem.mp hs i (1 + i) (by rw [List.length_map]; exact g1) (by rw [List.length_map]; exact g2) (by omega)
        rw [List.getElem_map, List.getElem_map, e1, e2] at z
        exact z
      have lt1 : opLt (.str q.1) (.str q2.1) = some (.fz (.bl true)) := by
        show some (AV.fz (.bl (ltS q.1 q2.1))) = _
        unfold ltS
        rw [decide_eq_true hlt]
      refine ⟨[.fz (.tup (its.map itD)), .fz (.int N), .bo (.dct K), .un, .fz (itD q), .fz (itD q2)], by simp, rfl, fun z => (by cases z), fun x hx => ?_⟩
      cases hx
      refine ⟨rfl, .fz (.bl true), ?_, rfl⟩
      simp [itD, lt1]
  have h2 : s_are_items_3 [.fz (.tup (its.map itD)), .fz (.int N), .bo (.dct K), .un, .un, .un] = .ok (.rt (.fz (.bl true))) [.fz (.tup (its.map itD)), .fz (.int N), .bo (.dct K), .un, .un, .un] := by
    have a1 := all_t (zipD (its.map itD) ((its.map itD).drop 1))
    generalize hg : (zipD (its.map itD) ((its.map itD).drop 1)).map (fun _ => D.bl true) = g2 at c2 a1
    generalize hg : its.map itD = g at c2 a1 ⊢
    simp [s_are_items_3, c2, a1]
  show runB 6 φ_are_items _ = _
  exact runB_fz (N := 6) (φ := φ_are_items) (ks := [.fz (.tup (its.map itD)), .fz (.int N), .bo (.dct K)]) (show φ_are_items _ = _ from (seq_nx h1).trans h2)
theorem ne_tup (a : D) (l : List D) (h : ∃ s, a = .str s) : opEq (.tup (a :: l)) (.tup []) = some (.fz (.bl false)) := by
  obtain ⟨s, rfl⟩ := h
  unfold opEq eqD
  simp [eqL]
theorem rec_run {pre : List Rc} {K : List (D × D)} {r : Rc} (hK : HD pre K) (v : VR pre r) : F_is_record [.fz r.d, .fz (.int ((pre.length : Int) + 1)), .bo (.dct K)] = .ok false (.bl true) [.dct K] := by
  generalize hn : (pre.length : Int) + 1 = N
  have s0 : (0 : Nat) ≤ sizeLine := Nat.zero_le _
  have go : ∀ {ρ : DL.Env}, φ_is_record [.fz r.d, .fz (.int N), .bo (.dct K)] = .ok (.rt (.fz (.bl true))) [.fz r.d, .fz (.int N), .bo (.dct K)] → F_is_record [.fz r.d, .fz (.int N), .bo (.dct K)] = .ok false (.bl true) [.dct K] := fun {ρ} h => by
    show runB 3 φ_is_record _ = _
    exact runB_fz (N := 3) (φ := φ_is_record) (ks := [.fz r.d, .fz (.int N), .bo (.dct K)]) h
  cases r with
  | hd n t =>
    have ne := ne_tup (.str "head") [.str n, t.1] ⟨_, rfl⟩
    have h1 : s_is_record_1 [.fz (Rc.hd n t).d, .fz (.int N), .bo (.dct K)] = .ok .nx [.fz (Rc.hd n t).d, .fz (.int N), .bo (.dct K)] := by simp [s_is_record_1, Rc.d, ne]
    have h2 : s_is_record_3 [.fz (Rc.hd n t).d, .fz (.int N), .bo (.dct K)] = .ok (.rt (.fz (.bl true))) [.fz (Rc.hd n t).d, .fz (.int N), .bo (.dct K)] := by simp [s_is_record_3, s_is_record_4, Rc.d, nm_n n v.1, is_t t v.2]
    exact go (ρ := []) (show φ_is_record _ = _ from (seq_nx h1).trans (seq_rt h2))
  | st n =>
    have ne := ne_tup (.str "strike") [.str n] ⟨_, rfl⟩
    have h1 : s_is_record_1 [.fz (Rc.st n).d, .fz (.int N), .bo (.dct K)] = .ok .nx [.fz (Rc.st n).d, .fz (.int N), .bo (.dct K)] := by simp [s_is_record_1, Rc.d, ne]
    have h2 : s_is_record_3 [.fz (Rc.st n).d, .fz (.int N), .bo (.dct K)] = .ok .nx [.fz (Rc.st n).d, .fz (.int N), .bo (.dct K)] := by simp (decide := true) [s_is_record_3, Rc.d]
    have h3 : s_is_record_5 [.fz (Rc.st n).d, .fz (.int N), .bo (.dct K)] = .ok .nx [.fz (Rc.st n).d, .fz (.int N), .bo (.dct K)] := by simp (decide := true) [s_is_record_5, Rc.d]
    have h4 : s_is_record_7 [.fz (Rc.st n).d, .fz (.int N), .bo (.dct K)] = .ok (.rt (.fz (.bl true))) [.fz (Rc.st n).d, .fz (.int N), .bo (.dct K)] := by simp (decide := true) [s_is_record_7, Rc.d, nm_n n v]
    exact go (ρ := []) (show φ_is_record _ = _ from (seq_nx h1).trans ((seq_nx h2).trans ((seq_nx h3).trans h4)))
  | ls its =>
    have ir := items_run hK v
    rw [hn] at ir
    have ne := ne_tup (.str "list") [.tup (its.map itD)] ⟨_, rfl⟩
    have hd : (Rc.ls its).d = .tup [.str "list", .tup (its.map itD)] := rfl
    rw [hd] at go ⊢
    generalize its.map itD = g at *
    have h1 : s_is_record_1 [.fz (.tup [.str "list", .tup g]), .fz (.int N), .bo (.dct K)] = .ok .nx [.fz (.tup [.str "list", .tup g]), .fz (.int N), .bo (.dct K)] := by simp [s_is_record_1, ne]
    have h2 : s_is_record_3 [.fz (.tup [.str "list", .tup g]), .fz (.int N), .bo (.dct K)] = .ok .nx [.fz (.tup [.str "list", .tup g]), .fz (.int N), .bo (.dct K)] := by simp (decide := true) [s_is_record_3]
    have h3 : s_is_record_5 [.fz (.tup [.str "list", .tup g]), .fz (.int N), .bo (.dct K)] = .ok .nx [.fz (.tup [.str "list", .tup g]), .fz (.int N), .bo (.dct K)] := by simp (decide := true) [s_is_record_5]
    have h4 : s_is_record_7 [.fz (.tup [.str "list", .tup g]), .fz (.int N), .bo (.dct K)] = .ok (.rt (.fz (.bl true))) [.fz (.tup [.str "list", .tup g]), .fz (.int N), .bo (.dct K)] := by simp (decide := true) [s_is_record_7, ir]
    exact go (ρ := []) (show φ_is_record _ = _ from (seq_nx h1).trans ((seq_nx h2).trans ((seq_nx h3).trans h4)))
/-! heads as they grow -/
theorem HD.nil : HD [] [] := ⟨Nat.le_refl _, fun n => ⟨[], .inr ⟨rfl, rfl⟩, Nat.le_refl _, fun j ⟨t, _, h⟩ => by cases h⟩⟩
theorem isHd_app {pre : List Rc} {r : Rc} {n : Str} {j : Nat} (h : isHd (pre ++ [r]) n j) : isHd pre n j ∨ (j = pre.length ∧ ∃ t ∈ T6, r = .hd n t) := by
  obtain ⟨t, ht, e⟩ := h
  by_cases hj : j < pre.length
  · rw [List.getElem?_append_left hj] at e
    exact .inl ⟨t, ht, e⟩
  · rw [List.getElem?_append_right (by omega)] at e
    have hz : j - pre.length = 0 := by
      rcases Nat.eq_zero_or_pos (j - pre.length) with h | h
      · exact h
      · rw [List.getElem?_eq_none (by rw [List.length_singleton]; omega)] at e
        cases e
    rw [hz] at e
    exact .inr ⟨by omega, t, ht, Option.some.inj e⟩
theorem HD.skip {pre : List Rc} {r : Rc} {K : List (D × D)} (h : HD pre K) (hr : ∀ n t, r ≠ .hd n t) : HD (pre ++ [r]) K := by
  have el : (pre ++ [r]).length = pre.length + 1 := by rw [List.length_append, List.length_singleton]
  refine ⟨by rw [el]; exact Nat.le_succ_of_le h.1, fun n => ?_⟩
  obtain ⟨l, e, hl, m⟩ := h.2 n
  refine ⟨l, e, by rw [el]; omega, fun j hj => ?_⟩
  rcases isHd_app hj with hj | ⟨_, t, _, e⟩
  · exact m j hj
  · exact absurd e (hr _ _)
def hadd (K : List (D × D)) (n : Str) (k : Nat) : List (D × D) := putD K (.str n) (match getK K (.inr n) with
  | some (.lst l) => .lst (l ++ [.int (k : Int)])
  | _ => .lst [.int (k : Int)])
theorem HD.add {pre : List Rc} {n : Str} {t : D × Str} {K : List (D × D)} (h : HD pre K) : HD (pre ++ [.hd n t]) (hadd K n (pre.length + 1)) := by
  have el : (pre ++ [Rc.hd n t]).length = pre.length + 1 := by rw [List.length_append, List.length_singleton]
  refine ⟨by rw [el]; have := putD_len (kvs := K) (k := .str n) (v := match getK K (.inr n) with
    | some (.lst l) => .lst (l ++ [.int ((pre.length + 1 : Nat) : Int)])
    | _ => .lst [.int ((pre.length + 1 : Nat) : Int)]); have := h.1; unfold hadd; omega, fun m => ?_⟩
  obtain ⟨l, e, hl, hm⟩ := h.2 m
  by_cases hnm : n = m
  · subst hnm
    refine ⟨l ++ [pre.length + 1], .inl ?_, by rw [el, List.length_append, List.length_singleton]; omega, fun j hj => ?_⟩
    · unfold hadd
      rw [getK_put (kk := .inr n) rfl, if_pos rfl]
      rcases e with e | ⟨e, rfl⟩
      · rw [e, zsD_app]
        rfl
      · rw [e]
        rfl
    · rcases isHd_app hj with hj | ⟨rfl, _⟩
      · exact List.mem_append_left _ (hm j hj)
      · exact List.mem_append_right _ List.mem_cons_self
  · refine ⟨l, ?_, by rw [el]; omega, fun j hj => ?_⟩
    · unfold hadd
      rw [getK_put (kk := .inr n) rfl, if_neg (fun q => hnm (Sum.inr.inj q))]
      exact e
    · rcases isHd_app hj with hj | ⟨_, t', _, e'⟩
      · exact hm j hj
      · cases e'
        exact absurd rfl hnm
end LW

namespace LW
open PySem DL
/-! ### Archive(records) -/
@[simp] theorem mReadF_app (T : String) (f : D → List D → Option AV) (φ : M AV) (ψ : M (List AV)) (ρ : DL.Env) : mReadF T f φ ψ ρ = (φ.bnd fun a => (rd (stab a)).bnd fun d0 => if kindD d0 = T then ψ.bnd fun avs => (frzAll avs).bnd fun ds => (rd (stab a)).bnd fun d => lift (f d ds) else M.stuck) ρ := rfl
@[simp] theorem dGetF_s (K : List (D × D)) (n : Str) (x : D) : dGetF (.dct K) [.str n, x] = some (.fz ((getK K (.inr n)).getD x)) := rfl
theorem hadd_val {pre : List Rc} {K : List (D × D)} (h : HD pre K) (n : Str) (k : Nat) (hp : pre.length ≤ 4000) : ∃ l, (getK K (.inr n)).getD (.lst []) = .lst l ∧ opAdd (.lst l) (.lst [.int (k : Int)]) = some (.ow (.lst (l ++ [.int (k : Int)]))) ∧ hadd K n k = putD K (.str n) (.lst (l ++ [.int (k : Int)])) := by
  obtain ⟨l, e, hl, _⟩ := h.2 n
  have hz : (zsD l).length = l.length := List.length_map _
  rcases e with e | ⟨e, rfl⟩
  · exact ⟨zsD l, by rw [e]; rfl, add_l (by rw [hz, List.length_singleton]; omega), by unfold hadd; rw [e]⟩
  · exact ⟨[], by rw [e]; rfl, add_l (by simp), by unfold hadd; rw [e]; rfl⟩
theorem init_turn {pre : List Rc} {r : Rc} {K : List (D × D)} {A L x3 x4 : Sl} (h : HD pre K) (v : VR pre r) (hp : pre.length ≤ 1000) (h3 : isBo x3 = false) (h4 : isBo x4 = false) : ∃ K' ρ1, bindT (.tp [.nm 3, .nm 4]) (.tup [.int ((pre.length : Int) + 1), r.d]) [A, L, .ow (.dct K), x3, x4] = .ok () ρ1 ∧
    mSeq s_Archive_init_5 s_Archive_init_7 ρ1 = .ok .nx [A, L, .ow (.dct K'), .fz (.int ((pre.length : Int) + 1)), .fz r.d] ∧ HD (pre ++ [r]) K' := by
  have rr := rec_run h v
  have hK := h.1
  have h5 : s_Archive_init_5 [A, L, .ow (.dct K), .fz (.int ((pre.length : Int) + 1)), .fz r.d] = .ok .nx [A, L, .ow (.dct K), .fz (.int ((pre.length : Int) + 1)), .fz r.d] := by
    simp [s_Archive_init_5, rr]
  cases r with
  | hd n t =>
    obtain ⟨l, e1, e2, e3⟩ := hadd_val h n (pre.length + 1) (by omega)
    have ek : ((pre.length : Int) + 1) = ((pre.length + 1 : Nat) : Int) := by omega
    refine ⟨hadd K n (pre.length + 1), [A, L, .ow (.dct K), .fz (.int ((pre.length : Int) + 1)), .fz (Rc.hd n t).d], by simp [h3, h4], ?_, h.add⟩
    refine (seq_nx h5).trans ?_
    have hz : K.length < sizeLine := by have := sl_small 1000000 (by omega); omega
    have s1 : (1 : Nat) ≤ sizeLine := sl_small 1 (by omega)
    rw [e3]
    rw [← ek] at e2 ⊢
    simp (decide := true) [s_Archive_init_7, s_Archive_init_8, Rc.d, e1, e2, hz, s1]
  | st n =>
    refine ⟨K, _, by simp [h3, h4], (seq_nx h5).trans ?_, h.skip fun n t q => by cases q⟩
    simp (decide := true) [s_Archive_init_7, Rc.d]
  | ls its =>
    refine ⟨K, _, by simp [h3, h4], (seq_nx h5).trans ?_, h.skip fun n t q => by cases q⟩
    simp (decide := true) [s_Archive_init_7, Rc.d]
theorem init_loop {A L : Sl} : ∀ (rs pre : List Rc) (K : List (D × D)) (x3 x4 : Sl), HD pre K → VA pre rs → pre.length + rs.length ≤ 1000 → isBo x3 = false → isBo x4 = false →
    ∃ K' y3 y4, loopF (.tp [.nm 3, .nm 4]) (mSeq s_Archive_init_5 s_Archive_init_7) (enumFrom ((pre.length : Int) + 1) (rs.map Rc.d)) [A, L, .ow (.dct K), x3, x4] = .ok .nx [A, L, .ow (.dct K'), y3, y4] ∧ HD (pre ++ rs) K'
  | [], pre, K, x3, x4, h, _, _, _, _ => ⟨K, x3, x4, rfl, by rw [List.append_nil]; exact h⟩
  | r :: rs, pre, K, x3, x4, h, v, hl, h3, h4 => by
    rw [List.length_cons] at hl
    obtain ⟨K1, ρ1, b1, b2, hK⟩ := init_turn (A := A) (L := L) h v.1 (by omega) h3 h4
    obtain ⟨K', y3, y4, e, hK'⟩ := init_loop (A := A) (L := L) rs (pre ++ [r]) K1 (.fz (.int ((pre.length : Int) + 1))) (.fz r.d) hK v.2 (by rw [List.length_append, List.length_singleton]; omega) rfl rfl
    refine ⟨K', y3, y4, ?_, by rw [List.append_assoc] at hK'; exact hK'⟩
    rw [List.map_cons]
    unfold enumFrom
    rw [loop_cons b1 (.inl b2)]
    have el : ((pre ++ [r]).length : Int) + 1 = (pre.length : Int) + 1 + 1 := by rw [List.length_append, List.length_singleton]; omega
    rw [el] at e
    exact e
theorem init_run {rs : List Rc} (v : VA [] rs) (hl : rs.length ≤ 1000) : ∃ K, HD rs K ∧ F_Archive_init [.bo (.ins "Archive" []), .fz (.lst (rs.map Rc.d))] = .ok false .non [arc (rs.map Rc.d) K] := by
  obtain ⟨K, y3, y4, e, hK⟩ := init_loop (A := .bo (.ins "Archive" [])) (L := .fz (.lst (rs.map Rc.d))) rs [] [] .un .un HD.nil v (by rw [List.length_nil]; omega) rfl rfl
  refine ⟨K, hK, ?_⟩
  have e : loopF (.tp [.nm 3, .nm 4]) (mSeq s_Archive_init_5 s_Archive_init_7) (enumFrom 1 (rs.map Rc.d)) [.bo (.ins "Archive" []), .fz (.lst (rs.map Rc.d)), .ow (.dct []), .un, .un] = _ := e
  generalize rs.map Rc.d = ds at *
  have h1 : s_Archive_init_1 [.bo (.ins "Archive" []), .fz (.lst ds), .un, .un, .un] = .ok .nx [.bo (.ins "Archive" []), .fz (.lst ds), .un, .un, .un] := by simp [s_Archive_init_1]
  have h2 : s_Archive_init_3 [.bo (.ins "Archive" []), .fz (.lst ds), .un, .un, .un] = .ok .nx [.bo (.ins "Archive" []), .fz (.lst ds), .ow (.dct []), .un, .un] := by simp [s_Archive_init_3]
  have hi : mItf enumC (mCons (mVar 1) (mCons (mC (.int 1)) mNil)) [.bo (.ins "Archive" []), .fz (.lst ds), .ow (.dct []), .un, .un] = .ok (enumFrom 1 ds) [.bo (.ins "Archive" []), .fz (.lst ds), .ow (.dct []), .un, .un] := by
    show ((mCons (mVar 1) _).bnd _) _ = _
    simp [enumC]
  have h3 : s_Archive_init_4 [.bo (.ins "Archive" []), .fz (.lst ds), .ow (.dct []), .un, .un] = .ok .nx [.bo (.ins "Archive" []), .fz (.lst ds), .ow (.dct K), y3, y4] := by
    unfold s_Archive_init_4
    rw [for_run hi, e]
  have h4 : s_Archive_init_9 [.bo (.ins "Archive" []), .fz (.lst ds), .ow (.dct K), y3, y4] = .ok .nx [.bo (.ins "Archive" [("kept_records", .lst ds)]), .fz (.lst ds), .ow (.dct K), y3, y4] := by
    unfold s_Archive_init_9 mSetF
    simp
    rfl
  have h5 : s_Archive_init_10 [.bo (.ins "Archive" [("kept_records", .lst ds)]), .fz (.lst ds), .ow (.dct K), y3, y4] = .ok .nx [.bo (arc ds K), .fz (.lst ds), .fz (.dct K), y3, y4] := by
    unfold s_Archive_init_10 mSetF
    simp
    rfl
  show runB 5 φ_Archive_init _ = _
  exact runB_nx (N := 5) (φ := φ_Archive_init) (ks := [.bo (.ins "Archive" []), .fz (.lst ds)]) (show φ_Archive_init _ = _ from (seq_nx h1).trans ((seq_nx h2).trans ((seq_nx h3).trans ((seq_nx h4).trans h5))))
/-- C(..) where the argument is a value -/
theorem make_run {rs : List Rc} (v : VA [] rs) (hl : rs.length ≤ 1000) : ∃ K, ∀ (φ : M (List AV)) (ρ ρ' : DL.Env), φ ρ = .ok [.fz (.lst (rs.map Rc.d))] ρ' → mMake "Archive" 2 F_Archive_init φ ρ = .ok (.ow (arc (rs.map Rc.d) K)) ρ' := by
  obtain ⟨K, _, e⟩ := init_run v hl
  refine ⟨K, fun φ ρ ρ' h => ?_⟩
  unfold mMake
  rw [bnd_ok h]
  unfold mMakeN
  simp [e]
end LW

namespace LW
open PySem DL
/-! ### cut -/
theorem sl_take {l : List D} {n : Nat} (h : n ≤ l.length) : slD (.lst l) none (some (n : Int)) = some (.ow (.lst (l.take n))) := by
  show some (AV.ow (.lst ((l.drop (HT.sIx l.length 0 none)).take (HT.sIx l.length l.length (some (n : Int)) - HT.sIx l.length 0 none)))) = _
  have e1 : HT.sIx l.length 0 none = 0 := rfl
  have e2 : HT.sIx l.length l.length (some (n : Int)) = n := by
    show (if (n : Int) < 0 then ((n : Int) + (l.length : Int)).toNat else min ((n : Int)).toNat l.length) = n
    rw [if_neg (by omega), Int.toNat_natCast, Nat.min_eq_left h]
  rw [e1, e2, List.drop_zero, Nat.sub_zero]
@[simp] theorem mSl_app (φ : M AV) (lo hi : Option (M AV)) (ρ : DL.Env) : mSl φ lo hi ρ = (φ.bnd fun a => (frz a).bnd fun d => (mEdge lo).bnd fun l => (mEdge hi).bnd fun u => lift (slD d l u)) ρ := rfl
@[simp] theorem mEdge_n (ρ : DL.Env) : mEdge none ρ = .ok none ρ := rfl
@[simp] theorem mEdge_s (φ : M AV) (ρ : DL.Env) : mEdge (some φ) ρ = (φ.bnd fun a => (rd a).bnd edgeD) ρ := rfl
@[simp] theorem edge_i (i : Int) (ρ : DL.Env) : edgeD (.int i) ρ = .ok (some i) ρ := rfl
theorem VA.take {rs : List Rc} (v : VA [] rs) (n : Nat) : VA [] (rs.take n) := by
  have z := v
  rw [← List.take_append_drop n rs] at z
  exact (VA.app.mp z).1
theorem cut_run {rs : List Rc} (v : VA [] rs) (hl : rs.length ≤ 1000) {n : Nat} (hn : n ≤ rs.length) : ∃ K', ∀ K, F_Archive_cut [.fz (arc (rs.map Rc.d) K), .fz (.int n)] = .ok true (arc ((rs.take n).map Rc.d) K') [] := by
  obtain ⟨K', mk⟩ := make_run (v.take n) (by rw [List.length_take]; omega)
  refine ⟨K', fun K => ?_⟩
  have hlen : (rs.map Rc.d).length = rs.length := List.length_map _
  have tk : (rs.take n).map Rc.d = (rs.map Rc.d).take n := List.map_take
  rw [tk] at mk ⊢
  have fk := fld_kept (rs.map Rc.d) K
  generalize hA : arc (rs.map Rc.d) K = A at fk ⊢
  generalize hds : rs.map Rc.d = ds at *
  have w := within_run (v := (n : Int)) (n := (ds.length : Int)) (by omega) (by omega)
  have h1 : s_Archive_cut_1 [.fz A, .fz (.int n)] = .ok .nx [.fz A, .fz (.int n)] := by simp [s_Archive_cut_1, fk, w]
  have sl := sl_take (l := ds) (n := n) (by omega)
  have ar : mRc .fz (mSl (mFld "Archive" "kept_records" (mVar 0)) none (some (mVar 1))) mNil [.fz A, .fz (.int n)] = .ok [.fz (.lst (ds.take n))] [.fz A, .fz (.int n)] := by simp [fk, sl]
  have h2 : s_Archive_cut_3 [.fz A, .fz (.int n)] = .ok (.rt (.ow (arc (ds.take n) K'))) [.fz A, .fz (.int n)] := by
    unfold s_Archive_cut_3
    rw [mRet_app, bnd_ok (mk _ _ _ ar)]
    rfl
  show runB 2 φ_Archive_cut _ = _
  exact runB_ow (N := 2) (φ := φ_Archive_cut) (ks := [.fz A, .fz (.int n)]) (show φ_Archive_cut _ = _ from (seq_nx h1).trans h2)
/-! ### signs of the texts -/
abbrev tl (x : Str) : List Nat := x.cps.toList
def free (s : Nat) (x : Str) : Prop := s ∉ tl x
theorem free_app {s : Nat} {a c : Str} (h : free s a) (h2 : free s c) : free s (a ++ c) := by
  show s ∉ TL.tl (a ++ c)
  rw [TL.tl_append]
  exact fun hm => (List.mem_append.mp hm).elim h h2
theorem n_free : ∀ n ∈ S5, (free 59 n ∧ free 58 n ∧ free 44 n) := of5 (by unfold free; decide) (by unfold free; decide) (by unfold free; decide) (by unfold free; decide) (by unfold free; decide)
theorem t_free : ∀ t ∈ T6, (free 59 t.2 ∧ free 58 t.2) := of6 (by unfold free; decide) (by unfold free; decide) (by unfold free; decide) (by unfold free; decide) (by unfold free; decide) (by unfold free; decide)
theorem nt_free {n s : Nat} (h : s < 48 ∨ 57 < s) : free s (nt n) := by
  unfold free tl
  rw [nt_tl]
  exact TL.numL_free h
theorem join_free {s : Nat} {c : Str} (hc : free s c) : ∀ {l : List Str}, (∀ x ∈ l, free s x) → free s (Txt.join c l)
  | [], _ => by rw [TL.join_eq]; unfold free; intro h; cases h
  | [a], h => by rw [TL.join_eq]; exact h a List.mem_cons_self
  | a :: d :: r, h => by
    have ih := join_free hc (l := d :: r) fun x hx => h x (List.mem_cons_of_mem _ hx)
    rw [TL.join_eq] at ih ⊢
    exact free_app (free_app (h a List.mem_cons_self) hc) ih
theorem itS_free {sts : List Nat} {q : Str × Nat} (hn : q.1 ∈ S5) : free 59 (itS sts q) ∧ free 44 (itS sts q) := by
  obtain ⟨h1, _, h3⟩ := n_free q.1 hn
  exact ⟨free_app (free_app h1 (by unfold free; decide)) (nt_free (by omega)), free_app (free_app h3 (by unfold free; decide)) (nt_free (by omega))⟩
theorem piece_free {pre : List Rc} {r : Rc} {sts : List Nat} (v : VR pre r) : free 59 (piece sts r) := by
  cases r with
  | hd n t => exact free_app (free_app (free_app (by unfold free; decide) (n_free n v.1).1) (by unfold free; decide)) (t_free t v.2).1
  | st n => exact free_app (by unfold free; decide) (n_free n v).1
  | ls its =>
    refine free_app (by unfold free; decide) (join_free (by unfold free; decide) fun x hx => ?_)
    obtain ⟨q, hq, rfl⟩ := List.mem_map.mp hx
    exact (itS_free (v.2.2 q hq).1).1
/-! a text at its separators -/
theorem split_step {a c x : Str} {s : Nat} (ec : tl c = [s]) (hk : c.cps.all (· < 256) = true) (h : free s a) : Txt.split (a ++ c ++ x) c = a :: Txt.split x c := by
  refine TL.map_tl_inj ?_
  have hc : TL.tl c ≠ [] := by show tl c ≠ []; rw [ec]; simp
  rw [List.map_cons, TL.split_spl _ c hc (TL.kind_ok hk), TL.split_spl _ c hc (TL.kind_ok hk), TL.tl_append, TL.tl_append]
  have ec : TL.tl c = [s] := ec
  rw [ec, List.append_assoc]
  exact (TL.spl_part1 (S := []) (acc := []) h).trans (by rw [List.nil_append])
theorem split_end {a c : Str} {s : Nat} (ec : tl c = [s]) (hk : c.cps.all (· < 256) = true) (h : free s a) : Txt.split a c = [a] := by
  refine TL.map_tl_inj ?_
  have hc : TL.tl c ≠ [] := by show tl c ≠ []; rw [ec]; simp
  have ec : TL.tl c = [s] := ec
  rw [TL.split_spl _ c hc (TL.kind_ok hk), ec]
  exact (TL.spl_last1 (S := []) (acc := []) h).trans (by rw [List.nil_append]; rfl)
/-- the parts of a grown text -/
def parts : List Nat × Str → List Rc → List Str
  | _, [] => []
  | s, r :: rs => piece (s.1 ++ [s.2.length]) r :: parts (go1 s r) rs
def tail : List Nat × Str → List Rc → Str
  | _, [] => ""
  | s, r :: rs => piece (s.1 ++ [s.2.length]) r ++ ";" ++ tail (go1 s r) rs
theorem app_assoc (a c e : Str) : a ++ c ++ e = a ++ (c ++ e) := TL.ext_tl (by rw [TL.tl_append, TL.tl_append, TL.tl_append, TL.tl_append, List.append_assoc])
theorem app_nil (a : Str) : a ++ "" = a := TL.ext_tl (by rw [TL.tl_append]; exact List.append_nil _)
theorem nil_app (a : Str) : ("" : Str) ++ a = a := TL.ext_tl (by rw [TL.tl_append]; exact List.nil_append _)
theorem go_tail : ∀ (rs : List Rc) (s : List Nat × Str), (go s rs).2 = s.2 ++ tail s rs
  | [], s => (app_nil _).symm
  | r :: rs, s => by
    show (go (go1 s r) rs).2 = s.2 ++ (piece (s.1 ++ [s.2.length]) r ++ ";" ++ tail (go1 s r) rs)
    rw [go_tail rs, ← app_assoc]
    rfl
theorem split_tail : ∀ (rs pre : List Rc) (s : List Nat × Str) (e : Str), VA pre rs → free 59 e → Txt.split (tail s rs ++ e) ";" = parts s rs ++ [e]
  | [], pre, s, e, _, he => by
    show Txt.split ("" ++ e) ";" = [e]
    rw [nil_app]
    exact split_end (s := 59) (by decide) (by decide +kernel) he
  | r :: rs, pre, s, e, v, he => by
    show Txt.split (piece (s.1 ++ [s.2.length]) r ++ ";" ++ tail (go1 s r) rs ++ e) ";" = piece (s.1 ++ [s.2.length]) r :: (parts (go1 s r) rs ++ [e])
    rw [app_assoc (piece (s.1 ++ [s.2.length]) r ++ ";"), split_step (s := 59) (by decide) (by decide +kernel) (piece_free v.1), split_tail rs (pre ++ [r]) (go1 s r) e v.2 he]
end LW

namespace LW
open PySem DL
/-! ### the whole part -/
theorem pre1 {s : Nat} {l : List Nat} {i : Nat} : TL.pre [s] (l.drop i) = true ↔ l[i]? = some s := by
  unfold TL.pre
  rw [List.length_singleton, beq_iff_eq]
  cases e : l[i]? with
  | none =>
    rw [List.drop_eq_nil_of_le (List.getElem?_eq_none_iff.mp e)]
    constructor
    · intro h; cases h
    · intro h; cases h
  | some c =>
    obtain ⟨hi, rfl⟩ := List.getElem?_eq_some_iff.mp e
    rw [List.drop_eq_getElem_cons hi, List.take_succ_cons, List.take_zero]
    simp
theorem rfind_run {x : Str} {a e : List Nat} (hx : tl x = a ++ e) (he : 59 ∉ e) (ha : a = [] ∨ ∃ a', a = a' ++ [59]) : Txt.rfind x ";" + 1 = (a.length : Int) := by
  have hy : TL.tl (";" : Str) = [59] := by decide
  have hne : TL.tl (";" : Str) ≠ [] := by rw [hy]; simp
  have at_ : ∀ i, PySem.StrLaws.At x ";" x.length i ↔ (a ++ e)[i]? = some 59 := fun i => by
    rw [TL.at_iff hne i, hy, pre1]
    show (tl x)[i]? = _ ↔ _
    rw [hx]
  have out : ∀ i, a.length ≤ i → (a ++ e)[i]? ≠ some 59 := fun i hi h => by
    rw [List.getElem?_append_right hi] at h
    exact he (List.mem_of_getElem? h)
  unfold Txt.rfind
  rcases PySem.StrLaws.last_spec x ";" with ⟨h1, h2⟩ | ⟨i, h1, h2, h3⟩
  · rw [h1]
    rcases ha with rfl | ⟨a', rfl⟩
    · rfl
    · exfalso
      refine h2 a'.length ((at_ _).mpr ?_)
      rw [List.getElem?_append_left (by rw [List.length_append, List.length_singleton]; omega), List.getElem?_append_right (Nat.le_refl _), Nat.sub_self]
      rfl
  · rw [h1]
    have hi := (at_ i).mp h2
    have hlt : i < a.length := by
      rcases Nat.lt_or_ge i a.length with h | h
      · exact h
      · exact absurd hi (out i h)
    rcases ha with rfl | ⟨a', rfl⟩
    · exact absurd hlt (Nat.not_lt_zero _)
    · rw [List.length_append, List.length_singleton] at hlt ⊢
      by_cases hz : i = a'.length
      · rw [hz]; show (a'.length : Int) + 1 = _; omega
      · exfalso
        refine h3 a'.length (by omega) ((at_ _).mpr ?_)
        rw [List.getElem?_append_left (by rw [List.length_append, List.length_singleton]; omega), List.getElem?_append_right (Nat.le_refl _), Nat.sub_self]
        rfl
theorem cut_to {x : Str} {m : Nat} (h : m ≤ x.length) : L2.cutS x none (some (m : Int)) = ⟨((tl x).take m).toArray⟩ := by
  unfold L2.cutS
  have e1 : HT.sIx x.length 0 none = 0 := rfl
  have e2 : HT.sIx x.length x.length (some (m : Int)) = m := by
    show (if (m : Int) < 0 then ((m : Int) + (x.length : Int)).toNat else min ((m : Int)).toNat x.length) = m
    rw [if_neg (by omega), Int.toNat_natCast, Nat.min_eq_left h]
  rw [e1, e2, List.drop_zero, Nat.sub_zero]
theorem sl_str {x : Str} {m : Nat} (h : m ≤ x.length) (h2 : x.length ≤ 10000) : slD (.str x) none (some (m : Int)) = some (.fz (.str ⟨((tl x).take m).toArray⟩)) := by
  show (if x.length ≤ sizeLine then some (AV.fz (.str (L2.cutS x none (some (m : Int))))) else none) = _
  rw [if_pos (sl_line _ (by omega)), cut_to h]
theorem whole_run {x y : Str} {e : List Nat} (hx : tl x = tl y ++ e) (he : 59 ∉ e) (hy : tl y = [] ∨ ∃ a', tl y = a' ++ [59]) (hl : x.length ≤ 10000) : F_whole_part [.fz (.str x)] = .ok false (.str y) [] := by
  have r := rfind_run hx he hy
  have hyl : y.length = (tl y).length := TL.len_tl y
  have hle : y.length ≤ x.length := by
    rw [TL.len_tl x]
    show y.length ≤ (tl x).length
    rw [hx, List.length_append, hyl]
    exact Nat.le_add_right _ _
  have e1 : sRfind (.str x) [.str ";"] = some (.fz (.int (Txt.rfind x ";"))) := rfl
  have r2 : Txt.rfind x ";" + 1 = (y.length : Int) := by rw [r, hyl]
  have s1 := sl_str (x := x) (m := y.length) hle hl
  have ey : (⟨((tl x).take y.length).toArray⟩ : Str) = y := by
    rw [hx, hyl, List.take_left]
  rw [ey] at s1
  show runB 1 φ_whole_part _ = _
  refine runB_fz (N := 1) (φ := φ_whole_part) (ks := [.fz (.str x)]) (ρ' := [.fz (.str x)]) ?_
  show s_whole_part_1 _ = _
  simp [s_whole_part_1, e1, r2, s1]
/-! a grown text, cut -/
theorem go1_tl (s : List Nat × Str) (r : Rc) : tl (go1 s r).2 = tl s.2 ++ (tl (piece (s.1 ++ [s.2.length]) r) ++ [59]) := by
  show TL.tl (s.2 ++ (piece (s.1 ++ [s.2.length]) r ++ ";")) = _
  rw [TL.tl_append, TL.tl_append]
  rfl
theorem go_mono : ∀ (rs : List Rc) (s : List Nat × Str), s.2.length ≤ (go s rs).2.length
  | [], s => Nat.le_refl _
  | r :: rs, s => by
    have h1 : s.2.length ≤ (go1 s r).2.length := by
      rw [TL.len_tl, TL.len_tl]
      show (tl s.2).length ≤ (tl (go1 s r).2).length
      rw [go1_tl, List.length_append]
      omega
    exact Nat.le_trans h1 (go_mono rs (go1 s r))
theorem go_ends : ∀ (rs : List Rc) (s : List Nat × Str), (tl s.2 = [] ∨ ∃ a, tl s.2 = a ++ [59]) → (tl (go s rs).2 = [] ∨ ∃ a, tl (go s rs).2 = a ++ [59])
  | [], s, h => h
  | r :: rs, s, h => go_ends rs (go1 s r) (.inr ⟨tl s.2 ++ tl (piece (s.1 ++ [s.2.length]) r), by rw [go1_tl, List.append_assoc]⟩)
theorem go_pre : ∀ (rs : List Rc) (s : List Nat × Str), ∃ z, tl (go s rs).2 = tl s.2 ++ z
  | [], s => ⟨[], (List.append_nil _).symm⟩
  | r :: rs, s => by
    obtain ⟨z, e⟩ := go_pre rs (go1 s r)
    refine ⟨tl (piece (s.1 ++ [s.2.length]) r) ++ [59] ++ z, ?_⟩
    show tl (go (go1 s r) rs).2 = _
    rw [e, go1_tl, List.append_assoc, List.append_assoc]
theorem text_cut : ∀ (rs pre : List Rc) (s : List Nat × Str) (m : Nat), VA pre rs → s.2.length ≤ m → m ≤ (go s rs).2.length → ∃ k e, k ≤ rs.length ∧ 59 ∉ e ∧ (tl (go s rs).2).take m = tl (go s (rs.take k)).2 ++ e ∧ ∀ j, j ≤ rs.length → ((go s (rs.take j)).2.length ≤ m ↔ j ≤ k)
  | [], pre, s, m, _, h1, h2 => by
    have hm : m = s.2.length := Nat.le_antisymm h2 h1
    refine ⟨0, [], Nat.le_refl _, List.not_mem_nil, ?_, fun j hj => ?_⟩
    · show (tl s.2).take m = tl s.2 ++ []
      rw [List.append_nil, List.take_of_length_le (by rw [hm, TL.len_tl]; exact Nat.le_refl _)]
    · rw [List.length_nil] at hj
      have : j = 0 := by omega
      subst this
      exact ⟨fun _ => Nat.le_refl _, fun _ => h1⟩
  | r :: rs, pre, s, m, v, h1, h2 => by
    by_cases hm : (go1 s r).2.length ≤ m
    · obtain ⟨k, e, hk, he, et, hj⟩ := text_cut rs (pre ++ [r]) (go1 s r) m v.2 hm h2
      refine ⟨k + 1, e, Nat.succ_le_succ hk, he, et, fun j hjl => ?_⟩
      cases j with
      | zero => exact ⟨fun _ => Nat.zero_le _, fun _ => h1⟩
      | succ j =>
        have z := hj j (Nat.le_of_succ_le_succ hjl)
        exact ⟨fun h => Nat.succ_le_succ (z.mp h), fun h => z.mpr (Nat.le_of_succ_le_succ h)⟩
    · obtain ⟨z, ez⟩ := go_pre rs (go1 s r)
      have l1 : (go1 s r).2.length = s.2.length + ((tl (piece (s.1 ++ [s.2.length]) r)).length + 1) := by
        rw [TL.len_tl]
        show (tl (go1 s r).2).length = _
        rw [go1_tl, List.length_append, List.length_append, List.length_singleton, TL.len_tl s.2]
      have hmn : m - s.2.length ≤ (tl (piece (s.1 ++ [s.2.length]) r)).length := by omega
      refine ⟨0, (tl (piece (s.1 ++ [s.2.length]) r)).take (m - s.2.length), Nat.zero_le _, fun h => piece_free v.1 (List.mem_of_mem_take h), ?_, fun j hjl => ?_⟩
      · show (tl (go (go1 s r) rs).2).take m = tl s.2 ++ _
        rw [ez, go1_tl, List.append_assoc, List.append_assoc, List.take_append, List.take_of_length_le (by show (TL.tl s.2).length ≤ m; rw [← TL.len_tl]; exact h1), ← TL.len_tl s.2, List.take_append_of_le_length hmn]
      · cases j with
        | zero => exact ⟨fun _ => Nat.le_refl _, fun _ => h1⟩
        | succ j =>
          refine ⟨fun h => absurd (Nat.le_trans (go_mono (rs.take j) (go1 s r)) h) hm, fun h => absurd h (Nat.not_succ_le_zero _)⟩
end LW

namespace LW
open PySem DL
/-! ### reading -/
def StP (s : List Nat × Str) : Prop := (s.1 ++ [s.2.length]).Pairwise (· < ·)
theorem StP.nil : StP ([], "") := by unfold StP; simp
theorem StP.step {s : List Nat × Str} (h : StP s) (r : Rc) : StP (go1 s r) := by
  have l1 : (go1 s r).2.length = s.2.length + ((tl (piece (s.1 ++ [s.2.length]) r)).length + 1) := by
    rw [TL.len_tl]
    show (tl (go1 s r).2).length = _
    rw [go1_tl, List.length_append, List.length_append, List.length_singleton, TL.len_tl s.2]
  unfold StP at *
  show ((s.1 ++ [s.2.length]) ++ [(go1 s r).2.length]).Pairwise (· < ·)
  refine List.pairwise_append.mpr ⟨h, List.pairwise_singleton _ _, fun a ha c hc => ?_⟩
  rw [List.mem_singleton.mp hc, l1]
  have hle : a ≤ s.2.length := by
    rcases List.mem_append.mp ha with ha | ha
    · exact Nat.le_of_lt ((List.pairwise_append.mp h).2.2 a ha _ (List.mem_singleton.mpr rfl))
    · rw [List.mem_singleton.mp ha]; exact Nat.le_refl _
  omega
theorem idx_at : ∀ {l : List Nat} {i u : Nat}, l.Pairwise (· < ·) → l[i]? = some u → idxD (.int (u : Int)) (zsD l) = some i
  | [], i, u, _, h => by cases h
  | a :: l, 0, u, _, h => by
    cases h
    show idxD (.int (a : Int)) (.int (a : Int) :: zsD l) = some 0
    unfold idxD
    rw [if_pos (show eqIS (.int (a : Int)) (.int (a : Int)) = true by simp [eqIS])]
  | a :: l, i + 1, u, hp, h => by
    obtain ⟨h1, h2⟩ := List.pairwise_cons.mp hp
    have h : l[i]? = some u := by simpa using h
    have hlt := h1 u (List.mem_of_getElem? h)
    show idxD (.int (u : Int)) (.int (a : Int) :: zsD l) = some (i + 1)
    unfold idxD
    rw [if_neg (show ¬ eqIS (.int (a : Int)) (.int (u : Int)) = true by simp [eqIS]; omega), idx_at h2 h]
    rfl
theorem zs_all (l : List Nat) : (zsD l).all isIS = true := List.all_eq_true.mpr fun x hx => by
  obtain ⟨n, _, rfl⟩ := List.mem_map.mp hx
  rfl
theorem index_run {l : List Nat} {i u : Nat} (hp : l.Pairwise (· < ·)) (h : l[i]? = some u) : lIndex (.lst (zsD l)) [.int (u : Int)] = some (.fz (.int (i : Nat))) := by
  show (if (isIS (.int (u : Int)) && (zsD l).all isIS) = true then (idxD (.int (u : Int)) (zsD l)).map fun j => AV.fz (.int (j : Nat)) else none) = _
  rw [if_pos (by rw [zs_all]; rfl), idx_at hp h]
  rfl
theorem split_r {x c : Str} {l : List Str} (hc : (c.length == 0) = false) (hx : x.length ≤ 10000) (h : Txt.split x c = l) : sSplit (.str x) [.str c] = some (.ow (.lst (l.map .str))) := by
  show (if (c.length == 0) = false ∧ x.length + 2 ≤ sizeLine then some (AV.ow (.lst ((Txt.split x c).map .str))) else none) = _
  rw [if_pos ⟨hc, sl_line _ (by omega)⟩, h]
@[simp] theorem isNon_i (i : Int) : isNon (.int i) = false := rfl
theorem item_back {ss : List Nat} {p : Nat} {q : Str × Nat} (hn : q.1 ∈ S5) (hb : q.2 ≤ ss.length) (hp : (ss ++ [p]).Pairwise (· < ·)) (h5 : p < 520) : F_read_item [.fz (.str (itS (ss ++ [p]) q)), .fz (.lst (zsD (ss ++ [p])))] = .ok false (itD q) [] := by
  obtain ⟨f1, f2, f3⟩ := n_free q.1 hn
  have k2 : (":" : Str).length = 1 := by decide
  have lt1 : ∀ u ∈ ss, u < p := fun u hu => (List.pairwise_append.mp hp).2.2 u hu p (List.mem_singleton.mpr rfl)
  have hm : ∀ u ∈ ss ++ [p], u ≤ p := fun u hu => by
    rcases List.mem_append.mp hu with h | h
    · exact Nat.le_of_lt (lt1 u h)
    · rw [List.mem_singleton.mp h]; exact Nat.le_refl _
  have il := itS_len (ss := ss) (p := p) hn h5 hm
  have hd : dist (ss ++ [p]) q.2 < 520 := by
    unfold dist
    split
    · rw [List.getLast?_append, List.getLast?_singleton]
      show (p : Nat) - _ < 520
      omega
    · omega
  have sp : Txt.split (itS (ss ++ [p]) q) ":" = [q.1, nt (dist (ss ++ [p]) q.2)] := by
    unfold itS
    rw [split_step (s := 58) (by decide) (by decide +kernel) f2, split_end (s := 58) (by decide) (by decide +kernel) (nt_free (by omega))]
  have sr := split_r (c := ":") (by decide) (by omega) sp
  generalize hx : itS (ss ++ [p]) q = x at *
  have rn := rn_run hd
  have i2 : ixD (.lst [.str q.1, .str (nt (dist (ss ++ [p]) q.2))]) (.int (-1)) = some (.fz (.str (nt (dist (ss ++ [p]) q.2)))) := ix_end [.str q.1] _
  have i0 : ixD (.lst [.str q.1, .str (nt (dist (ss ++ [p]) q.2))]) (.int 0) = some (.fz (.str q.1)) := ix_nat (j := 0) rfl rfl
  have h1 : s_read_item_1 [.fz (.str x), .fz (.lst (zsD (ss ++ [p]))), .un, .un, .un, .un] = .ok .nx [.fz (.str x), .fz (.lst (zsD (ss ++ [p]))), .ow (.lst [.str q.1, .str (nt (dist (ss ++ [p]) q.2))]), .un, .un, .un] := by simp [s_read_item_1, sr]
  have h2 : s_read_item_2 [.fz (.str x), .fz (.lst (zsD (ss ++ [p]))), .ow (.lst [.str q.1, .str (nt (dist (ss ++ [p]) q.2))]), .un, .un, .un] = .ok .nx [.fz (.str x), .fz (.lst (zsD (ss ++ [p]))), .ow (.lst [.str q.1, .str (nt (dist (ss ++ [p]) q.2))]), .fz (.str q.1), .fz (.int (dist (ss ++ [p]) q.2)), .un] := by
    simp [s_read_item_2, i0, i2, um_n q.1 hn, rn]
  have h3 : s_read_item_3 [.fz (.str x), .fz (.lst (zsD (ss ++ [p]))), .ow (.lst [.str q.1, .str (nt (dist (ss ++ [p]) q.2))]), .fz (.str q.1), .fz (.int (dist (ss ++ [p]) q.2)), .un] = .ok .nx [.fz (.str x), .fz (.lst (zsD (ss ++ [p]))), .ow (.lst [.str q.1, .str (nt (dist (ss ++ [p]) q.2))]), .fz (.str q.1), .fz (.int (dist (ss ++ [p]) q.2)), .un] := by
    simp [s_read_item_3]
  have s2 : (2 : Nat) ≤ sizeLine := sl_small 2 (by omega)
  show runB 6 φ_read_item _ = _
  by_cases h0 : 0 < q.2
  · obtain ⟨u, eu, ed⟩ := dist_at (p := p) hb h0
    have hu := lt1 u (List.mem_of_getElem? eu)
    have hdp : ¬ (dist (ss ++ [p]) q.2 = 0) := by rw [ed]; omega
    have h4 : s_read_item_5 [.fz (.str x), .fz (.lst (zsD (ss ++ [p]))), .ow (.lst [.str q.1, .str (nt (dist (ss ++ [p]) q.2))]), .fz (.str q.1), .fz (.int (dist (ss ++ [p]) q.2)), .un] = .ok .nx [.fz (.str x), .fz (.lst (zsD (ss ++ [p]))), .ow (.lst [.str q.1, .str (nt (dist (ss ++ [p]) q.2))]), .fz (.str q.1), .fz (.int (dist (ss ++ [p]) q.2)), .un] := by
      simp [s_read_item_5, hdp]
    have e1 : ixD (.lst (zsD (ss ++ [p]))) (.int (-1)) = some (.fz (.int p)) := by
      rw [zsD_app]
      exact ix_end _ _
    have eu' : (p : Int) - (dist (ss ++ [p]) q.2 : Nat) = (u : Int) := by rw [ed]; omega
    have h5' : s_read_item_7 [.fz (.str x), .fz (.lst (zsD (ss ++ [p]))), .ow (.lst [.str q.1, .str (nt (dist (ss ++ [p]) q.2))]), .fz (.str q.1), .fz (.int (dist (ss ++ [p]) q.2)), .un] = .ok .nx [.fz (.str x), .fz (.lst (zsD (ss ++ [p]))), .ow (.lst [.str q.1, .str (nt (dist (ss ++ [p]) q.2))]), .fz (.str q.1), .fz (.int (dist (ss ++ [p]) q.2)), .fz (.int u)] := by
      simp [s_read_item_7, e1, eu']
    have hlt : ss.length - q.2 < ss.length := by omega
    have iu : opIn (.int (u : Int)) (.lst (zsD (ss ++ [p]))) = some (.fz (.bl true)) := in_i ⟨u, List.mem_append_left _ (List.mem_of_getElem? eu), rfl⟩
    have ix := index_run hp (i := ss.length - q.2) (u := u) (by rw [List.getElem?_append_left hlt]; exact eu)
    have zl : (zsD (ss ++ [p])).length = ss.length + 1 := by unfold zsD; rw [List.length_map, List.length_append, List.length_singleton]
    have ef : ((ss.length : Int) + 1) - 1 - ((ss.length - q.2 : Nat) : Int) = (q.2 : Int) := by omega
    have h6 : s_read_item_8 [.fz (.str x), .fz (.lst (zsD (ss ++ [p]))), .ow (.lst [.str q.1, .str (nt (dist (ss ++ [p]) q.2))]), .fz (.str q.1), .fz (.int (dist (ss ++ [p]) q.2)), .fz (.int u)] = .ok (.rt (.fz (itD q))) [.fz (.str x), .fz (.lst (zsD (ss ++ [p]))), .ow (.lst [.str q.1, .str (nt (dist (ss ++ [p]) q.2))]), .fz (.str q.1), .fz (.int (dist (ss ++ [p]) q.2)), .fz (.int u)] := by
      have ef2 : (ss.length : Int) - ((ss.length - q.2 : Nat) : Int) = (q.2 : Int) := by omega
      simp [s_read_item_8, iu, ix, zl, ef, ef2, s2, itD]
    exact runB_fz (N := 6) (φ := φ_read_item) (ks := [.fz (.str x), .fz (.lst (zsD (ss ++ [p])))]) (show φ_read_item [.fz (.str x), .fz (.lst (zsD (ss ++ [p]))), .un, .un, .un, .un] = _ from (seq_nx h1).trans ((seq_nx h2).trans ((seq_nx h3).trans ((seq_nx h4).trans ((seq_nx h5').trans h6)))))
  · have z : q.2 = 0 := by omega
    have hd0 : dist (ss ++ [p]) q.2 = 0 := by unfold dist; rw [if_neg h0]
    have hd1 : dist (ss ++ [p]) 0 = 0 := by rw [z] at hd0; exact hd0
    have h4 : s_read_item_5 [.fz (.str x), .fz (.lst (zsD (ss ++ [p]))), .ow (.lst [.str q.1, .str (nt (dist (ss ++ [p]) q.2))]), .fz (.str q.1), .fz (.int (dist (ss ++ [p]) q.2)), .un] = .ok (.rt (.fz (itD q))) [.fz (.str x), .fz (.lst (zsD (ss ++ [p]))), .ow (.lst [.str q.1, .str (nt (dist (ss ++ [p]) q.2))]), .fz (.str q.1), .fz (.int (dist (ss ++ [p]) q.2)), .un] := by
      simp [s_read_item_5, s_read_item_6, hd0, hd1, s2, itD, z]
    exact runB_fz (N := 6) (φ := φ_read_item) (ks := [.fz (.str x), .fz (.lst (zsD (ss ++ [p])))]) (show φ_read_item [.fz (.str x), .fz (.lst (zsD (ss ++ [p]))), .un, .un, .un, .un] = _ from (seq_nx h1).trans ((seq_nx h2).trans ((seq_nx h3).trans (seq_rt h4))))
theorem from1 {x : Str} {c : Nat} {z : List Nat} (hx : tl x = c :: z) (hl : x.length ≤ 10000) : slD (.str x) (some 1) none = some (.fz (.str ⟨z.toArray⟩)) := by
  show (if x.length ≤ sizeLine then some (AV.fz (.str (L2.cutS x (some 1) none))) else none) = _
  rw [if_pos (sl_line _ (by omega))]
  unfold L2.cutS
  have xl : x.length = z.length + 1 := by
    rw [TL.len_tl]
    show (tl x).length = _
    rw [hx, List.length_cons]
  have e1 : HT.sIx x.length 0 (some 1) = 1 := by
    show min 1 x.length = 1
    omega
  have e2 : HT.sIx x.length x.length none = x.length := rfl
  have hx' : x.cps.toList = c :: z := hx
  rw [e1, e2, hx', List.drop_one, List.tail_cons, List.take_of_length_le (by omega)]
theorem to1 {x : Str} {c : Nat} {z : List Nat} (hx : tl x = c :: z) (hl : x.length ≤ 10000) : slD (.str x) none (some 1) = some (.fz (.str ⟨#[c]⟩)) := by
  have xl : x.length = z.length + 1 := by
    rw [TL.len_tl]
    show (tl x).length = _
    rw [hx, List.length_cons]
  have e := sl_str (x := x) (m := 1) (by omega) hl
  rw [hx] at e
  exact e
theorem eq_ns (a c : Str) (h : a ≠ c) : opNeX (.str a) (.str c) = some (.fz (.bl true)) := by simp [h]
theorem c1 : (⟨#[104]⟩ : Str) = "h" := by decide
theorem c2 : (⟨#[115]⟩ : Str) = "s" := by decide
theorem c3 : (⟨#[108]⟩ : Str) = "l" := by decide
theorem mk_of {z : List Nat} {y : Str} (h : tl y = z) : (⟨z.toArray⟩ : Str) = y := TL.ext_tl (by show z = tl y; exact h.symm)
theorem fm_eq {α β : Type} {f : α → Option β} {g : α → β} : ∀ {l : List α}, (∀ a ∈ l, f a = some (g a)) → l.filterMap f = l.map g
  | [], _ => rfl
  | a :: l, h => by rw [List.filterMap_cons_some (h a List.mem_cons_self), List.map_cons, fm_eq fun b hb => h b (List.mem_cons_of_mem _ hb)]
theorem rec_back {pre : List Rc} {r : Rc} {ss : List Nat} {p : Nat} (v : VR pre r) (hl : ss.length = pre.length) (hp : (ss ++ [p]).Pairwise (· < ·)) (h5 : p < 520) : F_read_record [.fz (.str (piece (ss ++ [p]) r)), .fz (.lst (zsD (ss ++ [p])))] = .ok false r.d [] := by
  have lt1 : ∀ u ∈ ss, u ≤ p := fun u hu => Nat.le_of_lt ((List.pairwise_append.mp hp).2.2 u hu p (List.mem_singleton.mpr rfl))
  have pl := piece_len (ss := ss) (p := p) v hl lt1 h5
  have s2 : (2 : Nat) ≤ sizeLine := sl_small 2 (by omega)
  have s3 : (3 : Nat) ≤ sizeLine := sl_small 3 (by omega)
  show runB 5 φ_read_record _ = _
  cases r with
  | hd n t =>
    obtain ⟨f1, f2, f3⟩ := n_free n v.1
    obtain ⟨g1, g2⟩ := t_free t v.2
    have hx : tl (piece (ss ++ [p]) (.hd n t)) = 104 :: tl (n ++ ":" ++ t.2) := by
      show TL.tl ("h" ++ n ++ ":" ++ t.2) = 104 :: TL.tl (n ++ ":" ++ t.2)
      rw [TL.tl_append, TL.tl_append, TL.tl_append, TL.tl_append, TL.tl_append]
      rfl
    generalize piece (ss ++ [p]) (.hd n t) = x at *
    have t1 := to1 hx (by omega)
    rw [c1] at t1
    have fr := from1 hx (by omega)
    rw [mk_of (y := n ++ ":" ++ t.2) rfl] at fr
    have sp : Txt.split (n ++ ":" ++ t.2) ":" = [n, t.2] := by rw [split_step (s := 58) (by decide) (by decide +kernel) f2, split_end (s := 58) (by decide) (by decide +kernel) g2]
    have yl : (n ++ ":" ++ t.2).length ≤ 1000 := by
      have l1 := n_len n v.1
      have l2 := t_len t v.2
      have k2 : (":" : Str).length = 1 := by decide
      rw [sla, sla]; omega
    have sr := split_r (c := ":") (by decide) (by omega) sp
    generalize n ++ ":" ++ t.2 = y at *
    have i0 : ixD (.lst [.str n, .str t.2]) (.int 0) = some (.fz (.str n)) := ix_nat (j := 0) rfl rfl
    have i1 : ixD (.lst [.str n, .str t.2]) (.int 1) = some (.fz (.str t.2)) := ix_nat (j := 1) rfl rfl
    have h1 : s_read_record_1 [.fz (.str x), .fz (.lst (zsD (ss ++ [p]))), .un, .un, .un] = .ok (.rt (.fz (Rc.hd n t).d)) [.fz (.str x), .fz (.lst (zsD (ss ++ [p]))), .ow (.lst [.str n, .str t.2]), .un, .un] := by
      simp [s_read_record_1, s_read_record_2, s_read_record_3, t1, fr, sr, i0, i1, um_n n v.1, rd_t t v.2, s3, Rc.d]
    exact runB_fz (N := 5) (φ := φ_read_record) (ks := [.fz (.str x), .fz (.lst (zsD (ss ++ [p])))]) (show φ_read_record [.fz (.str x), .fz (.lst (zsD (ss ++ [p]))), .un, .un, .un] = _ from seq_rt h1)
  | st n =>
    have hx : tl (piece (ss ++ [p]) (.st n)) = 115 :: tl n := by
      show TL.tl ("s" ++ n) = 115 :: TL.tl n
      rw [TL.tl_append]
      rfl
    generalize piece (ss ++ [p]) (.st n) = x at *
    have t1 := to1 hx (by omega)
    rw [c2] at t1
    have fr := from1 hx (by omega)
    rw [mk_of (y := n) rfl] at fr
    have h1 : s_read_record_1 [.fz (.str x), .fz (.lst (zsD (ss ++ [p]))), .un, .un, .un] = .ok .nx [.fz (.str x), .fz (.lst (zsD (ss ++ [p]))), .un, .un, .un] := by
      simp (decide := true) [s_read_record_1, t1]
    have h2 : s_read_record_4 [.fz (.str x), .fz (.lst (zsD (ss ++ [p]))), .un, .un, .un] = .ok (.rt (.fz (Rc.st n).d)) [.fz (.str x), .fz (.lst (zsD (ss ++ [p]))), .un, .un, .un] := by
      simp (decide := true) [s_read_record_4, s_read_record_5, t1, fr, um_n n v, s2, Rc.d]
    exact runB_fz (N := 5) (φ := φ_read_record) (ks := [.fz (.str x), .fz (.lst (zsD (ss ++ [p])))]) (show φ_read_record [.fz (.str x), .fz (.lst (zsD (ss ++ [p]))), .un, .un, .un] = _ from (seq_nx h1).trans (seq_rt h2))
  | ls its =>
    obtain ⟨hi5, _, hq⟩ := v
    have hx : tl (piece (ss ++ [p]) (.ls its)) = 108 :: tl (Txt.join "," (its.map (itS (ss ++ [p])))) := by
      show TL.tl ("l" ++ Txt.join "," (its.map (itS (ss ++ [p])))) = 108 :: TL.tl _
      rw [TL.tl_append]
      rfl
    have bk : ∀ q ∈ its, F_read_item [.fz (.str (itS (ss ++ [p]) q)), .fz (.lst (zsD (ss ++ [p])))] = .ok false (itD q) [] := fun q hm => by
      obtain ⟨a, _, c⟩ := hq q hm
      exact item_back a (by rcases c with c | ⟨c, _⟩ <;> omega) hp h5
    have fr44 : ∀ y ∈ its.map (itS (ss ++ [p])), 44 ∉ TL.tl y := fun y hy => by
      obtain ⟨q, hm, rfl⟩ := List.mem_map.mp hy
      exact (itS_free (hq q hm).1).2
    have jl : (Txt.join "," (its.map (itS (ss ++ [p])))).length ≤ 41 := by
      have e : (piece (ss ++ [p]) (.ls its)).length = ("l" : Str).length + (Txt.join "," (its.map (itS (ss ++ [p])))).length := sla _ _
      omega
    have hpe : piece (ss ++ [p]) (.ls its) = "l" ++ Txt.join "," (its.map (itS (ss ++ [p]))) := rfl
    generalize piece (ss ++ [p]) (.ls its) = x at *
    have t1 := to1 hx (by omega)
    rw [c3] at t1
    have fr := from1 hx (by omega)
    rw [mk_of (y := Txt.join "," (its.map (itS (ss ++ [p])))) rfl] at fr
    have h1 : s_read_record_1 [.fz (.str x), .fz (.lst (zsD (ss ++ [p]))), .un, .un, .un] = .ok .nx [.fz (.str x), .fz (.lst (zsD (ss ++ [p]))), .un, .un, .un] := by
      simp (decide := true) [s_read_record_1, t1]
    have h2 : s_read_record_4 [.fz (.str x), .fz (.lst (zsD (ss ++ [p]))), .un, .un, .un] = .ok .nx [.fz (.str x), .fz (.lst (zsD (ss ++ [p]))), .un, .un, .un] := by
      simp (decide := true) [s_read_record_4, t1]
    have h3 : s_read_record_6 [.fz (.str x), .fz (.lst (zsD (ss ++ [p]))), .un, .un, .un] = .ok .nx [.fz (.str x), .fz (.lst (zsD (ss ++ [p]))), .un, .un, .un] := by
      simp (decide := true) [s_read_record_6, t1]
    have h4 : s_read_record_8 [.fz (.str x), .fz (.lst (zsD (ss ++ [p]))), .un, .un, .un] = .ok .nx [.fz (.str x), .fz (.lst (zsD (ss ++ [p]))), .un, .ow (.lst (its.map itD)), .un] := by
      cases its with
      | nil =>
        have ex : x = "l" := by rw [hpe]; show (("l" : Str) ++ Txt.join "," []) = "l"; decide +kernel
        simp [s_read_record_8, ex]
      | cons q its =>
        have ne : x ≠ "l" := fun e => by
          rw [e] at hx
          have h0 : tl ("l" : Str) = [108] := by decide
          rw [h0] at hx
          have z : tl (Txt.join "," ((q :: its).map (itS (ss ++ [p])))) = [] := by injection hx with _ h; exact h.symm
          have sp := TL.split_join (y := ",") (s := 44) (S := []) (by decide) (by decide +kernel) (parts := (q :: its).map (itS (ss ++ [p]))) (by simp) fr44
          have e0 : Txt.join "," ((q :: its).map (itS (ss ++ [p]))) = "" := TL.ext_tl z
          rw [e0] at sp
          have s0 : Txt.split ("" : Str) "," = [("" : Str)] := split_end (s := 44) (by decide) (by decide +kernel) (by unfold free; decide)
          rw [s0] at sp
          have h1 : itS (ss ++ [p]) q = "" := by injection sp with h _; exact h.symm
          have h2 : (itS (ss ++ [p]) q).length = 0 := by rw [h1]; rfl
          unfold itS at h2
          rw [sla, sla, show (":" : Str).length = 1 by decide] at h2
          omega
        have sp := TL.split_join (y := ",") (s := 44) (S := []) (by decide) (by decide +kernel) (parts := (q :: its).map (itS (ss ++ [p]))) (by simp) fr44
        have sr := split_r (c := ",") (by decide) (by omega) sp
        generalize hits : q :: its = qs at *
        have i1 : mItems (mRead "str" sSplit (mSl (mVar 0) (some (mC (.int 1))) none) (mCons (mC (.str ",")) mNil)) [.fz (.str x), .fz (.lst (zsD (ss ++ [p]))), .un, .un, .un] = .ok ((qs.map (itS (ss ++ [p]))).map .str) [.fz (.str x), .fz (.lst (zsD (ss ++ [p]))), .un, .un, .un] := by
          generalize (qs.map (itS (ss ++ [p]))).map D.str = g at sr ⊢
          simp [fr, sr]
        have cm : mComp (mItems (mRead "str" sSplit (mSl (mVar 0) (some (mC (.int 1))) none) (mCons (mC (.str ",")) mNil))) [4] (.nm 4) (M.ret true) (mCallF 2 F_read_item (mRc .fz (mVar 4) (mRc .fz (mVar 1) mNil))) [.fz (.str x), .fz (.lst (zsD (ss ++ [p]))), .un, .un, .un] = .ok (.ow (.lst (qs.map itD))) [.fz (.str x), .fz (.lst (zsD (ss ++ [p]))), .un, .un, .un] := by
          have key := comp_gen (own := [4]) (t := .nm 4) (τ := M.ret true) (φ := mCallF 2 F_read_item (mRc .fz (mVar 4) (mRc .fz (mVar 1) mNil))) (ρ1 := [.fz (.str x), .fz (.lst (zsD (ss ++ [p]))), .un, .un, .un]) i1 rfl (fun d => match F_read_item [.fz d, .fz (.lst (zsD (ss ++ [p])))] with
            | .ok _ y _ => some y
            | _ => none) (fun d hd => ?_) (by rw [List.length_map, List.length_map]; omega)
          · rw [key]
            have ef : List.filterMap (fun d => match F_read_item [.fz d, .fz (.lst (zsD (ss ++ [p])))] with
              | .ok _ y _ => some y
              | _ => none) ((qs.map (itS (ss ++ [p]))).map .str) = qs.map itD := by
              rw [List.map_map, List.filterMap_map]
              refine fm_eq fun q' hm => ?_
              show (match F_read_item [.fz (.str (itS (ss ++ [p]) q')), .fz (.lst (zsD (ss ++ [p])))] with
                | .ok _ y _ => some y
                | _ => none) = _
              rw [bk q' hm]
            rw [ef]
            rfl
          · obtain ⟨z, hz, rfl⟩ := List.mem_map.mp hd
            obtain ⟨q', hm, rfl⟩ := List.mem_map.mp hz
            have b := bk q' hm
            refine ⟨[.fz (.str x), .fz (.lst (zsD (ss ++ [p]))), .un, .un, .fz (.str (itS (ss ++ [p]) q'))], by simp, rfl, fun h => ?_, fun y hy => ?_⟩
            · rw [b] at h; cases h
            · rw [b] at hy
              cases hy
              exact ⟨rfl, .fz (itD q'), by simp [b], rfl⟩
        have tn : opNeX (.str x) (.str "l") = some (.fz (.bl true)) := eq_ns _ _ ne
        generalize qs.map itD = g at cm ⊢
        simp [s_read_record_8, tn, cm, ne]
    have h6 : s_read_record_9 [.fz (.str x), .fz (.lst (zsD (ss ++ [p]))), .un, .ow (.lst (its.map itD)), .un] = .ok (.rt (.fz (Rc.ls its).d)) [.fz (.str x), .fz (.lst (zsD (ss ++ [p]))), .un, .ow (.lst (its.map itD)), .un] := by
      have ft : ∀ l : List D, fTuple [.lst l] = some (.fz (.tup l)) := fun l => rfl
      simp [s_read_record_9, s2, Rc.d, ft]
    exact runB_fz (N := 5) (φ := φ_read_record) (ks := [.fz (.str x), .fz (.lst (zsD (ss ++ [p])))]) (show φ_read_record [.fz (.str x), .fz (.lst (zsD (ss ++ [p]))), .un, .un, .un] = _ from (seq_nx h1).trans ((seq_nx h2).trans ((seq_nx h3).trans ((seq_nx h4).trans h6))))
end LW

namespace LW
open PySem DL
/-! ### read -/
theorem sl_but {l : List D} {e : D} : slD (.lst (l ++ [e])) none (some (-1)) = some (.ow (.lst l)) := by
  show some (AV.ow (.lst (((l ++ [e]).drop (HT.sIx (l ++ [e]).length 0 none)).take (HT.sIx (l ++ [e]).length (l ++ [e]).length (some (-1)) - HT.sIx (l ++ [e]).length 0 none)))) = _
  have e1 : HT.sIx (l ++ [e]).length 0 none = 0 := rfl
  have e2 : HT.sIx (l ++ [e]).length (l ++ [e]).length (some (-1)) = l.length := by
    show (if (-1 : Int) < 0 then ((-1 : Int) + ((l ++ [e]).length : Int)).toNat else min ((-1 : Int)).toNat (l ++ [e]).length) = l.length
    rw [if_pos (by decide), List.length_append, List.length_singleton]
    omega
  rw [e1, e2, List.drop_zero, Nat.sub_zero, List.take_left]
theorem go1_len (s : List Nat × Str) (r : Rc) : (go1 s r).2.length = s.2.length + ((piece (s.1 ++ [s.2.length]) r).length + 1) := by
  show (s.2 ++ (piece (s.1 ++ [s.2.length]) r ++ ";")).length = _
  rw [sla, sla]
  rfl
def rdBody : M Ctl := mSeq s_read_5 (mSeq s_read_6 (mSeq s_read_7 (mSeq s_read_9 (mSeq s_read_11 s_read_12))))
theorem read_turn {T : Sl} {pre : List Rc} {r : Rc} {s : List Nat × Str} {K : List (D × D)} {x2 x5 x6 x7 : Sl} (hS : St pre s) (hP : StP s) (hK : HD pre K) (v : VR pre r) (hl : pre.length < 12) (h2 : LsOf x2 (zsD s.1)) (h5 : isBo x5 = false) (h6 : isBo x6 = false) (h7 : isBo x7 = false) :
    ∃ K' ρ1 y2 y5 y6 y7, bindT (.tp [.nm 5, .nm 6]) (.tup [.int ((pre.length : Int) + 1), .str (piece (s.1 ++ [s.2.length]) r)]) [T, .ow (.lst (pre.map Rc.d)), x2, .ow (.dct K), .fz (.int s.2.length), x5, x6, x7] = .ok () ρ1 ∧
      rdBody ρ1 = .ok .nx [T, .ow (.lst ((pre ++ [r]).map Rc.d)), y2, .ow (.dct K'), .fz (.int (go1 s r).2.length), y5, y6, y7] ∧ HD (pre ++ [r]) K' ∧ LsOf y2 (zsD (go1 s r).1) ∧ isBo y5 = false ∧ isBo y6 = false ∧ isBo y7 = false := by
  obtain ⟨s1, s2, s3⟩ := hS
  have hlt : s.2.length < 520 := by omega
  have rb := rec_back (r := r) v s1 hP hlt
  have pl := piece_len (p := s.2.length) v s1 s2 hlt
  have rr := rec_run hK v
  have el := go1_len s r
  have hKl := hK.1
  have eg1 : (go1 s r).1 = s.1 ++ [s.2.length] := rfl
  rw [eg1]
  generalize hx : piece (s.1 ++ [s.2.length]) r = x at *
  have zl : (zsD s.1).length = s.1.length := List.length_map _
  have one : (1 : Nat) ≤ sizeLine := sl_small 1 (by omega)
  have a1 : opAdd (.lst (zsD s.1)) (.lst [.int s.2.length]) = some (.ow (.lst (zsD (s.1 ++ [s.2.length])))) := by
    rw [add_l (by rw [zl, List.length_singleton]; omega), zsD_app]
    rfl
  have ln : fLen [.str x] = some (.fz (.int x.length)) := len_s (by omega)
  have e12 : (s.2.length : Int) + x.length + 1 = ((go1 s r).2.length : Int) := by rw [el]; omega
  generalize (go1 s r).2.length = G at *
  generalize hN : (pre.length : Int) + 1 = N at *
  have b1 : bindT (.tp [.nm 5, .nm 6]) (.tup [.int N, .str x]) [T, .ow (.lst (pre.map Rc.d)), x2, .ow (.dct K), .fz (.int s.2.length), x5, x6, x7] = .ok () [T, .ow (.lst (pre.map Rc.d)), x2, .ow (.dct K), .fz (.int s.2.length), .fz (.int N), .fz (.str x), x7] := by simp [h5, h6]
  have t5 : s_read_5 [T, .ow (.lst (pre.map Rc.d)), x2, .ow (.dct K), .fz (.int s.2.length), .fz (.int N), .fz (.str x), x7] = .ok .nx [T, .ow (.lst (pre.map Rc.d)), .ow (.lst (zsD (s.1 ++ [s.2.length]))), .ow (.dct K), .fz (.int s.2.length), .fz (.int N), .fz (.str x), x7] := by
    rcases h2 with rfl | rfl <;> simp [s_read_5, a1, one]
  generalize hZ : zsD (s.1 ++ [s.2.length]) = Z at *
  have t6 : s_read_6 [T, .ow (.lst (pre.map Rc.d)), .ow (.lst Z), .ow (.dct K), .fz (.int s.2.length), .fz (.int N), .fz (.str x), x7] = .ok .nx [T, .ow (.lst (pre.map Rc.d)), .fz (.lst Z), .ow (.dct K), .fz (.int s.2.length), .fz (.int N), .fz (.str x), .fz r.d] := by
    simp [s_read_6, rb, h7]
  have t7 : s_read_7 [T, .ow (.lst (pre.map Rc.d)), .fz (.lst Z), .ow (.dct K), .fz (.int s.2.length), .fz (.int N), .fz (.str x), .fz r.d] = .ok .nx [T, .ow (.lst (pre.map Rc.d)), .fz (.lst Z), .ow (.dct K), .fz (.int s.2.length), .fz (.int N), .fz (.str x), .fz r.d] := by
    simp [s_read_7, rr]
  have tA : ∀ K' : List (D × D), s_read_11 [T, .ow (.lst (pre.map Rc.d)), .fz (.lst Z), .ow (.dct K'), .fz (.int s.2.length), .fz (.int N), .fz (.str x), .fz r.d] = .ok .nx [T, .ow (.lst ((pre ++ [r]).map Rc.d)), .fz (.lst Z), .ow (.dct K'), .fz (.int s.2.length), .fz (.int N), .fz (.str x), .fz r.d] := fun K' => by
    have hz : pre.length < sizeLine := by have := sl_small 1000000 (by omega); omega
    have em : (pre ++ [r]).map Rc.d = pre.map Rc.d ++ [r.d] := by rw [List.map_append]; rfl
    rw [em]
    have gl : (pre.map Rc.d).length = pre.length := List.length_map _
    generalize pre.map Rc.d = g at gl ⊢
    simp [s_read_11, gl, hz]
  have tB : ∀ (K' : List (D × D)) (g : List D), s_read_12 [T, .ow (.lst g), .fz (.lst Z), .ow (.dct K'), .fz (.int s.2.length), .fz (.int N), .fz (.str x), .fz r.d] = .ok .nx [T, .ow (.lst g), .fz (.lst Z), .ow (.dct K'), .fz (.int G), .fz (.int N), .fz (.str x), .fz r.d] := fun K' g => by
    simp [s_read_12, ln, e12]
  have fin : ∀ K' : List (D × D), s_read_9 [T, .ow (.lst (pre.map Rc.d)), .fz (.lst Z), .ow (.dct K), .fz (.int s.2.length), .fz (.int N), .fz (.str x), .fz r.d] = .ok .nx [T, .ow (.lst (pre.map Rc.d)), .fz (.lst Z), .ow (.dct K'), .fz (.int s.2.length), .fz (.int N), .fz (.str x), .fz r.d] → HD (pre ++ [r]) K' →
      ∃ K' ρ1 y2 y5 y6 y7, bindT (.tp [.nm 5, .nm 6]) (.tup [.int N, .str x]) [T, .ow (.lst (pre.map Rc.d)), x2, .ow (.dct K), .fz (.int s.2.length), x5, x6, x7] = .ok () ρ1 ∧
      rdBody ρ1 = .ok .nx [T, .ow (.lst ((pre ++ [r]).map Rc.d)), y2, .ow (.dct K'), .fz (.int G), y5, y6, y7] ∧ HD (pre ++ [r]) K' ∧ LsOf y2 Z ∧ isBo y5 = false ∧ isBo y6 = false ∧ isBo y7 = false := fun K' t9 hK' =>
    ⟨K', _, _, _, _, _, b1, (seq_nx t5).trans ((seq_nx t6).trans ((seq_nx t7).trans ((seq_nx t9).trans ((seq_nx (tA K')).trans (tB K' _))))), hK', .inr rfl, rfl, rfl, rfl⟩
  generalize pre.map Rc.d = g at fin ⊢
  cases r with
  | hd n t =>
    obtain ⟨l, e1, e2, e3⟩ := hadd_val hK n (pre.length + 1) (by omega)
    have ek : N = ((pre.length + 1 : Nat) : Int) := by omega
    refine fin (hadd K n (pre.length + 1)) ?_ hK.add
    have hz : K.length < sizeLine := by have := sl_small 1000000 (by omega); omega
    rw [e3]
    rw [← ek] at e2 ⊢
    simp (decide := true) [s_read_9, s_read_10, Rc.d, e1, e2, hz, one]
  | st n =>
    refine fin K ?_ (hK.skip fun n t q => by cases q)
    simp (decide := true) [s_read_9, Rc.d]
  | ls its =>
    refine fin K ?_ (hK.skip fun n t q => by cases q)
    simp (decide := true) [s_read_9, Rc.d]
theorem read_loop {T : Sl} : ∀ (rs pre : List Rc) (s : List Nat × Str) (K : List (D × D)) (x2 x5 x6 x7 : Sl), St pre s → StP s → HD pre K → VA pre rs → pre.length + rs.length ≤ 12 → LsOf x2 (zsD s.1) → isBo x5 = false → isBo x6 = false → isBo x7 = false →
    ∃ K' y2 y5 y6 y7, loopF (.tp [.nm 5, .nm 6]) rdBody (enumFrom ((pre.length : Int) + 1) ((parts s rs).map .str)) [T, .ow (.lst (pre.map Rc.d)), x2, .ow (.dct K), .fz (.int s.2.length), x5, x6, x7] = .ok .nx [T, .ow (.lst ((pre ++ rs).map Rc.d)), y2, .ow (.dct K'), .fz (.int (go s rs).2.length), y5, y6, y7]
  | [], pre, s, K, x2, x5, x6, x7, _, _, _, _, _, _, _, _, _ => ⟨K, x2, x5, x6, x7, by rw [List.append_nil]; rfl⟩
  | r :: rs, pre, s, K, x2, x5, x6, x7, hS, hP, hK, v, hl, h2, h5, h6, h7 => by
    rw [List.length_cons] at hl
    obtain ⟨K1, ρ1, y2, y5, y6, y7, b1, b2, hK1, g2, g5, g6, g7⟩ := read_turn (T := T) hS hP hK v.1 (by omega) h2 h5 h6 h7
    obtain ⟨K', z2, z5, z6, z7, e⟩ := read_loop (T := T) rs (pre ++ [r]) (go1 s r) K1 y2 y5 y6 y7 (hS.step v.1 (by omega)) (hP.step r) hK1 v.2 (by rw [List.length_append, List.length_singleton]; omega) g2 g5 g6 g7
    refine ⟨K', z2, z5, z6, z7, ?_⟩
    have el : ((pre ++ [r]).length : Int) + 1 = (pre.length : Int) + 1 + 1 := by rw [List.length_append, List.length_singleton]; omega
    rw [el, List.append_assoc] at e
    show loopF (.tp [.nm 5, .nm 6]) rdBody (enumFrom ((pre.length : Int) + 1) (.str (piece (s.1 ++ [s.2.length]) r) :: (parts (go1 s r) rs).map .str)) _ = _
    unfold enumFrom
    rw [loop_cons b1 (.inl b2)]
    exact e
theorem txt_len {rs : List Rc} (v : VA [] rs) (hl : rs.length ≤ 12) : (txt rs).length ≤ 504 := by
  have z := (St.run St.nil v (by rw [List.length_nil]; omega)).2.2
  rw [List.nil_append] at z
  show (go ([], "") rs).2.length ≤ 504
  omega
theorem read_run {rs : List Rc} (v : VA [] rs) (hl : rs.length ≤ 12) : ∃ K, F_read [.fz (.str (txt rs))] = .ok true (arc (rs.map Rc.d) K) [] := by
  have tlen := txt_len v hl
  obtain ⟨K', mk⟩ := make_run v (by omega)
  refine ⟨K', ?_⟩
  obtain ⟨K1, y2, y5, y6, y7, e⟩ := read_loop (T := .fz (.str (txt rs))) rs [] ([], "") [] (.ow (.lst [])) .un .un .un St.nil StP.nil HD.nil v (by rw [List.length_nil]; omega) (.inl rfl) rfl rfl rfl
  have e : loopF (.tp [.nm 5, .nm 6]) rdBody (enumFrom 1 ((parts ([], "") rs).map .str)) [.fz (.str (txt rs)), .ow (.lst []), .ow (.lst []), .ow (.dct []), .fz (.int 0), .un, .un, .un] = .ok .nx [.fz (.str (txt rs)), .ow (.lst (rs.map Rc.d)), y2, .ow (.dct K1), .fz (.int (txt rs).length), y5, y6, y7] := e
  have sp : Txt.split (txt rs) ";" = parts ([], "") rs ++ [("" : Str)] := by
    have z := split_tail rs [] ([], "") "" v (by unfold free; decide)
    rw [app_nil] at z
    rw [← z]
    show Txt.split (go ([], "") rs).2 ";" = _
    rw [go_tail, nil_app]
  have sr := split_r (c := ";") (by decide) (by omega) sp
  rw [List.map_append] at sr
  have ln : fLen [.str (txt rs)] = some (.fz (.int (txt rs).length)) := len_s (by omega)
  generalize hx : txt rs = x at *
  have t1 : s_read_1 [.fz (.str x), .un, .un, .un, .un, .un, .un, .un] = .ok .nx [.fz (.str x), .un, .un, .un, .un, .un, .un, .un] := by simp [s_read_1]
  have t3 : s_read_3 [.fz (.str x), .un, .un, .un, .un, .un, .un, .un] = .ok .nx [.fz (.str x), .ow (.lst []), .ow (.lst []), .ow (.dct []), .fz (.int 0), .un, .un, .un] := by simp [s_read_3]
  have bt := sl_but (l := (parts ([], "") rs).map .str) (e := .str "")
  have hi : mItf enumC (mCons (mSl (mRead "str" sSplit (mVar 0) (mCons (mC (.str ";")) mNil)) none (some (mUn unNeg (mC (.int 1))))) (mCons (mC (.int 1)) mNil)) [.fz (.str x), .ow (.lst []), .ow (.lst []), .ow (.dct []), .fz (.int 0), .un, .un, .un] = .ok (enumFrom 1 ((parts ([], "") rs).map .str)) [.fz (.str x), .ow (.lst []), .ow (.lst []), .ow (.dct []), .fz (.int 0), .un, .un, .un] := by
    have sr : sSplit (.str x) [.str ";"] = some (.ow (.lst ((parts ([], "") rs).map .str ++ [.str ""]))) := sr
    generalize (parts ([], "") rs).map D.str = g at sr bt ⊢
    show ((mCons _ _).bnd _) _ = _
    simp [sr, bt, enumC]
  have t4 : s_read_4 [.fz (.str x), .ow (.lst []), .ow (.lst []), .ow (.dct []), .fz (.int 0), .un, .un, .un] = .ok .nx [.fz (.str x), .ow (.lst (rs.map Rc.d)), y2, .ow (.dct K1), .fz (.int x.length), y5, y6, y7] := by
    unfold s_read_4
    rw [for_run hi]
    exact e
  generalize rs.map Rc.d = ds at *
  have t13 : s_read_13 [.fz (.str x), .ow (.lst ds), y2, .ow (.dct K1), .fz (.int x.length), y5, y6, y7] = .ok .nx [.fz (.str x), .ow (.lst ds), y2, .ow (.dct K1), .fz (.int x.length), y5, y6, y7] := by simp [s_read_13, ln]
  have ar : mRc .fz (mVar 1) mNil [.fz (.str x), .ow (.lst ds), y2, .ow (.dct K1), .fz (.int x.length), y5, y6, y7] = .ok [.fz (.lst ds)] [.fz (.str x), .fz (.lst ds), y2, .ow (.dct K1), .fz (.int x.length), y5, y6, y7] := by simp
  have t15 : s_read_15 [.fz (.str x), .ow (.lst ds), y2, .ow (.dct K1), .fz (.int x.length), y5, y6, y7] = .ok (.rt (.ow (arc ds K'))) [.fz (.str x), .fz (.lst ds), y2, .ow (.dct K1), .fz (.int x.length), y5, y6, y7] := by
    unfold s_read_15
    rw [mRet_app, bnd_ok (mk _ _ _ ar)]
    rfl
  show runB 8 φ_read _ = _
  exact runB_ow (N := 8) (φ := φ_read) (ks := [.fz (.str x)]) (show φ_read [.fz (.str x), .un, .un, .un, .un, .un, .un, .un] = _ from (seq_nx t1).trans ((seq_nx t3).trans ((seq_nx t4).trans ((seq_nx t13).trans t15))))
end LW

namespace LW
open PySem DL
/-! ### the readers -/
def isH (rs : List Rc) (i : Int) : Prop := ∃ (j : Nat) (n : Str) (t : D × Str), i = (j : Int) + 1 ∧ t ∈ T6 ∧ rs[j]? = some (.hd n t)
theorem thing_run {rs : List Rc} {i : Int} (h : isH rs i) : ∃ t ∈ T6, F_thing_at [.fz (.lst (rs.map Rc.d)), .fz (.int i)] = .ok false t.1 [] := by
  obtain ⟨j, n, t, rfl, ht, e⟩ := h
  refine ⟨t, ht, ?_⟩
  have e1 : ixD (.lst (rs.map Rc.d)) (.int ((j : Int) + 1 - 1)) = some (.fz (Rc.hd n t).d) := ix_nat (j := j) (by omega) (by rw [List.getElem?_map, e]; rfl)
  have ej : (j : Int) + 1 - 1 = j := by omega
  have e2 : ixD (.lst (rs.map Rc.d)) (.int (j : Int)) = some (.fz (Rc.hd n t).d) := by rw [← ej]; exact e1
  generalize rs.map Rc.d = g at *
  show runB 2 φ_thing_at _ = _
  refine runB_fz (N := 2) (φ := φ_thing_at) (ks := [.fz (.lst g), .fz (.int ((j : Int) + 1))]) (ρ' := [.fz (.lst g), .fz (.int ((j : Int) + 1))]) ?_
  show s_thing_at_1 _ = _
  simp [s_thing_at_1, e1, e2, ej, Rc.d]
/-- dicts of names and numbers of heads -/
def GN (rs : List Rc) (d : List (D × D)) : Prop := ∀ p ∈ d, ∃ (n : Str) (i : Int), p = (.str n, .int i) ∧ (i = 0 ∨ isH rs i)
theorem GN.nil {rs : List Rc} : GN rs [] := fun p h => absurd h List.not_mem_nil
theorem mem_put {kvs : List (D × D)} {k v : D} {p : D × D} (h : p ∈ putD kvs k v) : (p ∈ kvs ∧ keyOf p.1 ≠ keyOf k) ∨ (p.2 = v ∧ (p = (k, v) ∨ ∃ q ∈ kvs, keyOf q.1 = keyOf k ∧ p.1 = q.1)) := by
  unfold putD at h
  by_cases ha : (kvs.any fun p => decide (keyOf p.1 = keyOf k)) = true
  · rw [if_pos ha] at h
    obtain ⟨q, hq, rfl⟩ := List.mem_map.mp h
    by_cases e : keyOf q.1 = keyOf k
    · rw [if_pos e]
      exact .inr ⟨rfl, .inr ⟨q, hq, e, rfl⟩⟩
    · rw [if_neg e]
      exact .inl ⟨hq, e⟩
  · rw [if_neg ha] at h
    rcases List.mem_append.mp h with h | h
    · exact .inl ⟨h, fun e => ha (List.any_eq_true.mpr ⟨p, h, decide_eq_true e⟩)⟩
    · rw [List.mem_singleton.mp h]
      exact .inr ⟨rfl, .inl rfl⟩
theorem GN.put {rs : List Rc} {d : List (D × D)} {n : Str} {i : Int} (h : GN rs d) (hi : i = 0 ∨ isH rs i) : GN rs (putD d (.str n) (.int i)) := by
  intro p hp
  rcases mem_put hp with ⟨hp, _⟩ | ⟨h2, h1 | ⟨q, hq, ek, e1⟩⟩
  · exact h p hp
  · exact ⟨n, i, h1, hi⟩
  · obtain ⟨m, i', e, _⟩ := h q hq
    subst e
    obtain ⟨p1, p2⟩ := p
    exact ⟨m, i, by rw [show p1 = .str m from e1, show p2 = .int i from h2], hi⟩
theorem GN.get {rs : List Rc} {d : List (D × D)} (h : GN rs d) (n : Str) : ∃ i : Int, (getK d (.inr n)).getD (.int 0) = .int i ∧ (i = 0 ∨ isH rs i) := by
  induction d with
  | nil => exact ⟨0, rfl, .inl rfl⟩
  | cons p d ih =>
    obtain ⟨m, i, rfl, hi⟩ := h p List.mem_cons_self
    rw [getK_cons]
    by_cases e : keyOf (.str m) = some (Sum.inr n)
    · rw [if_pos e]
      exact ⟨i, rfl, hi⟩
    · rw [if_neg e]
      exact ih fun q hq => h q (List.mem_cons_of_mem _ hq)
/-- what is told: names and things -/
def VT (d : List (D × D)) : Prop := ∀ p ∈ d, ∃ (n : Str) (t : D × Str), p = (.str n, t.1) ∧ t ∈ T6 ∧ getK d (.inr n) = some t.1
theorem VT.nil : VT [] := fun p h => absurd h List.not_mem_nil
theorem VT.put {d : List (D × D)} {n : Str} {t : D × Str} (h : VT d) (ht : t ∈ T6) : VT (putD d (.str n) t.1) := by
  intro p hp
  have key : ∀ m : Str, getK (putD d (.str n) t.1) (.inr m) = if (Sum.inr n : L2.Key) = .inr m then some t.1 else getK d (.inr m) := fun m => getK_put (kk := .inr n) rfl
  rcases mem_put hp with ⟨hp, hne⟩ | ⟨h2, h1 | ⟨q, hq, ek, e1⟩⟩
  · obtain ⟨m, t', e, ht', g⟩ := h p hp
    subst e
    exact ⟨m, t', rfl, ht', by rw [key, if_neg (fun q => hne (by rw [Sum.inr.inj q]))]; exact g⟩
  · exact ⟨n, t, h1, ht, by rw [key, if_pos rfl]⟩
  · obtain ⟨m, t', e, ht', g⟩ := h q hq
    subst e
    obtain ⟨p1, p2⟩ := p
    have hm : m = n := by
      have ek : some (Sum.inr m : L2.Key) = some (Sum.inr n) := ek
      exact Sum.inr.inj (Option.some.inj ek)
    subst hm
    exact ⟨m, t, by rw [show p1 = .str m from e1, show p2 = t.1 from h2], ht, by rw [key, if_pos rfl]⟩
/-- the head is at an item's place -/
theorem isH_at {rs pre : List Rc} {n : Str} {b : Nat} (hp : ∃ z, rs = pre ++ z) (hb : b ≤ pre.length) (h : isHd pre n (pre.length - b)) : isH rs ((pre.length : Int) + 1 - b) := by
  obtain ⟨z, rfl⟩ := hp
  obtain ⟨t, ht, e⟩ := h
  have hlt : pre.length - b < pre.length := (List.getElem?_eq_some_iff.mp e).1
  exact ⟨pre.length - b, n, t, by omega, ht, by rw [List.getElem?_append_left hlt]; exact e⟩
theorem setD_s (K : List (D × D)) (n : Str) (v : D) (h : K.length ≤ 1000) : setD (.dct K) (.str n) v = some (.dct (putD K (.str n) v)) := by
  rw [setD_dct, if_pos (by have := sl_small 1000000 (by omega); omega)]
theorem front_items {rs : List Rc} {k : Int} {L : List (D × D)} (hL : GN rs L) : ∀ (its : List (Str × Nat)) (Fd : List (D × D)) (x6 x7 : Sl), GN rs Fd → Fd.length + its.length ≤ 1000 → isBo x6 = false → isBo x7 = false →
    ∃ Fd' y6 y7, GN rs Fd' ∧ Fd'.length ≤ Fd.length + its.length ∧ isBo y6 = false ∧ isBo y7 = false ∧ ∀ T R r5 : Sl, loopF (.tp [.nm 6, .nm 7]) s_from_front_6 (its.map itD) [T, R, .ow (.dct L), .ow (.dct Fd), .fz (.int k), r5, x6, x7] = .ok .nx [T, R, .ow (.dct L), .ow (.dct Fd'), .fz (.int k), r5, y6, y7]
  | [], Fd, x6, x7, hF, _, h6, h7 => ⟨Fd, x6, x7, hF, by simp, h6, h7, fun T R r5 => rfl⟩
  | q :: its, Fd, x6, x7, hF, hl, h6, h7 => by
    rw [List.length_cons] at hl
    obtain ⟨i, gi, hi⟩ := hL.get q.1
    have pl := putD_len (kvs := Fd) (k := .str q.1) (v := .int i)
    have b1 : ∀ T R r5 : Sl, bindT (.tp [.nm 6, .nm 7]) (itD q) [T, R, .ow (.dct L), .ow (.dct Fd), .fz (.int k), r5, x6, x7] = .ok () [T, R, .ow (.dct L), .ow (.dct Fd), .fz (.int k), r5, .fz (.str q.1), .fz (.int q.2)] := fun T R r5 => by simp [itD, h6, h7]
    have sd := setD_s Fd q.1 (.int i) (by omega)
    have c : ∃ Fd1, GN rs Fd1 ∧ Fd1.length ≤ Fd.length + 1 ∧ ∀ T R r5 : Sl, s_from_front_6 [T, R, .ow (.dct L), .ow (.dct Fd), .fz (.int k), r5, .fz (.str q.1), .fz (.int q.2)] = .ok .nx [T, R, .ow (.dct L), .ow (.dct Fd1), .fz (.int k), r5, .fz (.str q.1), .fz (.int q.2)] := by
      by_cases h0 : 0 < q.2
      · by_cases e : i = k - q.2
        · refine ⟨putD Fd (.str q.1) (.int i), hF.put hi, pl, fun T R r5 => ?_⟩
          simp [s_from_front_6, s_from_front_7, gi, h0, e] at sd ⊢
          rw [e] at gi
          have hz : Fd.length < sizeLine := by have := sl_small 1000000 (by omega); omega
          simp [hz, gi]
        · refine ⟨Fd, hF, by omega, fun T R r5 => ?_⟩
          simp [s_from_front_6, gi, h0, e]
      · have z : q.2 = 0 := by omega
        by_cases e : i = 0
        · refine ⟨putD Fd (.str q.1) (.int i), hF.put hi, pl, fun T R r5 => ?_⟩
          have hz : Fd.length < sizeLine := by have := sl_small 1000000 (by omega); omega
          rw [e] at gi
          simp [s_from_front_6, s_from_front_7, gi, z, e, hz]
        · refine ⟨Fd, hF, by omega, fun T R r5 => ?_⟩
          simp [s_from_front_6, gi, z, e]
    obtain ⟨Fd1, hF1, l1, c⟩ := c
    obtain ⟨Fd', y6, y7, hF', l2, g6, g7, e⟩ := front_items hL its Fd1 (.fz (.str q.1)) (.fz (.int q.2)) hF1 (by omega) rfl rfl
    refine ⟨Fd', y6, y7, hF', by rw [List.length_cons]; omega, g6, g7, fun T R r5 => ?_⟩
    rw [List.map_cons, loop_cons (b1 T R r5) (.inl (c T R r5))]
    exact e T R r5
theorem front_turn {rs pre rest : List Rc} {r : Rc} {L Fd : List (D × D)} {x4 x5 x6 x7 : Sl} (hrs : rs = pre ++ (r :: rest)) (v : VR pre r) (hL : GN rs L) (hF : GN rs Fd) (hl : pre.length ≤ 12) (l1 : L.length ≤ pre.length) (l2 : Fd.length ≤ 5 * pre.length) (h4 : isBo x4 = false) (h5 : isBo x5 = false) (h6 : isBo x6 = false) (h7 : isBo x7 = false) :
    ∃ L' Fd' y4 y5 y6 y7, GN rs L' ∧ GN rs Fd' ∧ L'.length ≤ pre.length + 1 ∧ Fd'.length ≤ 5 * (pre.length + 1) ∧ isBo y4 = false ∧ isBo y5 = false ∧ isBo y6 = false ∧ isBo y7 = false ∧ ∀ T R : Sl, ∃ ρ1, bindT (.tp [.nm 4, .nm 5]) (.tup [.int ((pre.length : Int) + 1), r.d]) [T, R, .ow (.dct L), .ow (.dct Fd), x4, x5, x6, x7] = .ok () ρ1 ∧ s_from_front_4 ρ1 = .ok .nx [T, R, .ow (.dct L'), .ow (.dct Fd'), y4, y5, y6, y7] := by
  have b1 : ∀ T R : Sl, bindT (.tp [.nm 4, .nm 5]) (.tup [.int ((pre.length : Int) + 1), r.d]) [T, R, .ow (.dct L), .ow (.dct Fd), x4, x5, x6, x7] = .ok () [T, R, .ow (.dct L), .ow (.dct Fd), .fz (.int ((pre.length : Int) + 1)), .fz r.d, x6, x7] := fun T R => by simp [h4, h5]
  have hz : L.length < sizeLine := by have := sl_small 1000000 (by omega); omega
  cases r with
  | hd n t =>
    have hh : isH rs ((pre.length : Int) + 1) := ⟨pre.length, n, t, rfl, v.2, by rw [hrs, List.getElem?_append_right (Nat.le_refl _), Nat.sub_self]; rfl⟩
    have pl := putD_len (kvs := L) (k := .str n) (v := .int ((pre.length : Int) + 1))
    refine ⟨putD L (.str n) (.int ((pre.length : Int) + 1)), Fd, .fz (.int ((pre.length : Int) + 1)), .fz (Rc.hd n t).d, x6, x7, hL.put (.inr hh), hF, by omega, by omega, rfl, rfl, h6, h7, fun T R => ⟨_, b1 T R, ?_⟩⟩
    simp (decide := true) [s_from_front_4, s_from_front_9, Rc.d, hz]
  | st n =>
    have pl := putD_len (kvs := L) (k := .str n) (v := .int 0)
    refine ⟨putD L (.str n) (.int 0), Fd, .fz (.int ((pre.length : Int) + 1)), .fz (Rc.st n).d, x6, x7, hL.put (.inl rfl), hF, by omega, by omega, rfl, rfl, h6, h7, fun T R => ⟨_, b1 T R, ?_⟩⟩
    simp (decide := true) [s_from_front_4, s_from_front_9, Rc.d, hz]
  | ls its =>
    obtain ⟨Fd', y6, y7, hF', l3, g6, g7, e⟩ := front_items (k := (pre.length : Int) + 1) hL its Fd x6 x7 hF (by have := v.1; omega) h6 h7
    have h5' := v.1
    refine ⟨L, Fd', .fz (.int ((pre.length : Int) + 1)), .fz (Rc.ls its).d, y6, y7, hL, hF', by omega, by omega, rfl, rfl, g6, g7, fun T R => ⟨_, b1 T R, ?_⟩⟩
    have t : mTest (mOp opEq (mOp ixD (mVar 5) (mC (.int 0))) (mC (.str "list"))) [T, R, .ow (.dct L), .ow (.dct Fd), .fz (.int ((pre.length : Int) + 1)), .fz (Rc.ls its).d, x6, x7] = .ok true [T, R, .ow (.dct L), .ow (.dct Fd), .fz (.int ((pre.length : Int) + 1)), .fz (Rc.ls its).d, x6, x7] := by simp [Rc.d]
    have hi : mItems (mOp ixD (mVar 5) (mC (.int 1))) [T, R, .ow (.dct L), .ow (.dct Fd), .fz (.int ((pre.length : Int) + 1)), .fz (Rc.ls its).d, x6, x7] = .ok (its.map itD) [T, R, .ow (.dct L), .ow (.dct Fd), .fz (.int ((pre.length : Int) + 1)), .fz (Rc.ls its).d, x6, x7] := by simp [Rc.d]
    unfold s_from_front_4
    rw [if_t t]
    unfold s_from_front_5
    rw [for_run hi]
    exact e T R (.fz (Rc.ls its).d)
theorem front_loop {rs : List Rc} : ∀ (rest pre : List Rc) (L Fd : List (D × D)) (x4 x5 x6 x7 : Sl), rs = pre ++ rest → VA pre rest → GN rs L → GN rs Fd → rs.length ≤ 12 → L.length ≤ pre.length → Fd.length ≤ 5 * pre.length → isBo x4 = false → isBo x5 = false → isBo x6 = false → isBo x7 = false →
    ∃ L' Fd' y4 y5 y6 y7, GN rs L' ∧ GN rs Fd' ∧ Fd'.length ≤ 60 ∧ isBo y4 = false ∧ isBo y6 = false ∧ ∀ T R : Sl, loopF (.tp [.nm 4, .nm 5]) s_from_front_4 (enumFrom ((pre.length : Int) + 1) (rest.map Rc.d)) [T, R, .ow (.dct L), .ow (.dct Fd), x4, x5, x6, x7] = .ok .nx [T, R, .ow (.dct L'), .ow (.dct Fd'), y4, y5, y6, y7]
  | [], pre, L, Fd, x4, x5, x6, x7, hrs, _, hL, hF, hl, l1, l2, h4, h5, h6, h7 => ⟨L, Fd, x4, x5, x6, x7, hL, hF, by rw [hrs, List.append_nil] at hl; omega, h4, h6, fun T R => rfl⟩
  | r :: rest, pre, L, Fd, x4, x5, x6, x7, hrs, v, hL, hF, hl, l1, l2, h4, h5, h6, h7 => by
    have hpl : pre.length + (rest.length + 1) ≤ 12 := by rw [hrs, List.length_append, List.length_cons] at hl; omega
    have el : (pre ++ [r]).length = pre.length + 1 := by rw [List.length_append, List.length_singleton]
    obtain ⟨L1, F1, z4, z5, z6, z7, a1, a2, a3, a4, a5, a6, a7, a8, b⟩ := front_turn (x4 := x4) (x5 := x5) (x6 := x6) (x7 := x7) hrs v.1 hL hF (by omega) l1 l2 h4 h5 h6 h7
    obtain ⟨L', Fd', y4, y5, y6, y7, c1, c2, c3, c4, c6, e⟩ := front_loop rest (pre ++ [r]) L1 F1 z4 z5 z6 z7 (by rw [hrs, List.append_assoc]; rfl) v.2 a1 a2 hl (by rw [el]; exact a3) (by rw [el]; exact a4) a5 a6 a7 a8
    refine ⟨L', Fd', y4, y5, y6, y7, c1, c2, c3, c4, c6, fun T R => ?_⟩
    obtain ⟨ρ1, b1, b2⟩ := b T R
    rw [List.map_cons]
    unfold enumFrom
    rw [loop_cons b1 (.inl b2)]
    have ei : ((pre ++ [r]).length : Int) + 1 = (pre.length : Int) + 1 + 1 := by rw [el]; omega
    have e := e T R
    rw [ei] at e
    exact e
def told1 (ds : List D) (d : D) : Option (D × D) := match d with
  | .tup [k, .int i] => if 0 < i then (match F_thing_at [.fz (.lst ds), .fz (.int i)] with
    | .ok _ y _ => some (k, y)
    | _ => none) else none
  | _ => none
theorem VT.fold {ds : List D} : ∀ {l : List D} {acc : List (D × D)}, VT acc → (∀ d ∈ l, ∀ k y, told1 ds d = some (k, y) → ∃ (n : Str) (t : D × Str), k = .str n ∧ t ∈ T6 ∧ y = t.1) → VT (l.foldl (stepD (told1 ds)) acc)
  | [], acc, h, _ => h
  | d :: l, acc, h, hd => by
    rw [List.foldl_cons]
    refine VT.fold ?_ fun d hm => hd d (List.mem_cons_of_mem _ hm)
    unfold stepD
    cases e : told1 ds d with
    | none => exact h
    | some p =>
      obtain ⟨k, y⟩ := p
      obtain ⟨n, t, rfl, ht, rfl⟩ := hd d List.mem_cons_self k y e
      exact h.put ht
/-- a text whose whole part is that of the records -/
def Wh (rs : List Rc) (x : Str) : Prop := F_whole_part [.fz (.str x)] = .ok false (.str (txt rs)) []
theorem recs_of {rs : List Rc} (v : VA [] rs) (hl : rs.length ≤ 12) {x : Str} (h : Wh rs x) : ∀ tl : List Sl, mProp "Archive" "records" .fz F_Archive_records (mCallF 1 F_read (mRc .fz (mCallF 1 F_whole_part (mRc .fz (mVar 0) mNil)) mNil)) (.fz (.str x) :: tl) = .ok (.ow (.lst (rs.map Rc.d))) (.fz (.str x) :: tl) := by
  intro tl
  obtain ⟨K, e⟩ := read_run v hl
  have rr := recs_run (rs.map Rc.d) K
  have hi : (insF "Archive" (arc (rs.map Rc.d) K)).isSome = true := rfl
  generalize arc (rs.map Rc.d) K = A at *
  generalize rs.map Rc.d = g at *
  have h : F_whole_part [.fz (.str x)] = .ok false (.str (txt rs)) [] := h
  simp [mProp, h, e, hi, rr]
theorem front_run {rs : List Rc} (v : VA [] rs) (hl : rs.length ≤ 12) : ∃ d, VT d ∧ ∀ x, Wh rs x → F_from_front [.fz (.str x)] = .ok true (.dct d) [] := by
  obtain ⟨L, Fd, y4, y5, y6, y7, c1, c2, c3, c4, c6, e⟩ := front_loop (rs := rs) rs [] [] [] .un .un .un .un rfl v GN.nil GN.nil hl (Nat.le_refl _) (Nat.zero_le _) rfl rfl rfl rfl
  have e : ∀ T R : Sl, loopF (.tp [.nm 4, .nm 5]) s_from_front_4 (enumFrom 1 (rs.map Rc.d)) [T, R, .ow (.dct []), .ow (.dct []), .un, .un, .un, .un] = .ok .nx [T, R, .ow (.dct L), .ow (.dct Fd), y4, y5, y6, y7] := e
  have th : ∀ i : Int, (i = 0 ∨ isH rs i) → 0 < i → ∃ t ∈ T6, F_thing_at [.fz (.lst (rs.map Rc.d)), .fz (.int i)] = .ok false t.1 [] := fun i hi h0 => by
    rcases hi with rfl | hi
    · exact absurd h0 (by decide)
    · exact thing_run hi
  refine ⟨(Fd.map fun p => D.tup [p.1, p.2]).foldl (stepD (told1 (rs.map Rc.d))) [], VT.fold VT.nil fun d hd k y hk => ?_, fun x hx => ?_⟩
  · obtain ⟨p, hp, rfl⟩ := List.mem_map.mp hd
    obtain ⟨n, i, rfl, hi⟩ := c2 p hp
    have hk : (if 0 < i then (match F_thing_at [.fz (.lst (rs.map Rc.d)), .fz (.int i)] with
      | .ok _ y _ => some (D.str n, y)
      | _ => none) else none) = some (k, y) := hk
    by_cases h0 : 0 < i
    · rw [if_pos h0] at hk
      obtain ⟨t, ht, et⟩ := th i hi h0
      rw [et] at hk
      cases hk
      exact ⟨n, t, rfl, ht, rfl⟩
    · rw [if_neg h0] at hk
      cases hk
  · have r0 := recs_of v hl hx [.un, .un, .un, .un, .un, .un, .un]
    generalize rs.map Rc.d = g at *
    have t1 : s_from_front_1 [.fz (.str x), .un, .un, .un, .un, .un, .un, .un] = .ok .nx [.fz (.str x), .ow (.lst g), .un, .un, .un, .un, .un, .un] := by
      unfold s_from_front_1
      rw [mAsg_app, bnd_ok r0]
      simp
    have t2 : s_from_front_2 [.fz (.str x), .ow (.lst g), .un, .un, .un, .un, .un, .un] = .ok .nx [.fz (.str x), .ow (.lst g), .ow (.dct []), .ow (.dct []), .un, .un, .un, .un] := by simp [s_from_front_2]
    have hi : mItf enumC (mCons (mVar 1) (mCons (mC (.int 1)) mNil)) [.fz (.str x), .ow (.lst g), .ow (.dct []), .ow (.dct []), .un, .un, .un, .un] = .ok (enumFrom 1 g) [.fz (.str x), .fz (.lst g), .ow (.dct []), .ow (.dct []), .un, .un, .un, .un] := by
      show ((mCons (mVar 1) _).bnd _) _ = _
      simp [enumC]
    have t3 : s_from_front_3 [.fz (.str x), .ow (.lst g), .ow (.dct []), .ow (.dct []), .un, .un, .un, .un] = .ok .nx [.fz (.str x), .fz (.lst g), .ow (.dct L), .ow (.dct Fd), y4, y5, y6, y7] := by
      unfold s_from_front_3
      rw [for_run hi]
      exact e _ _
    have di : dItems 3 [.fz (.str x), .fz (.lst g), .ow (.dct L), .ow (.dct Fd), y4, y5, y6, y7] = .ok (Fd.map fun p => D.tup [p.1, p.2]) [.fz (.str x), .fz (.lst g), .ow (.dct L), .fz (.dct Fd), y4, y5, y6, y7] := rfl
    have wp : wipeE [6, 4] [.fz (.str x), .fz (.lst g), .ow (.dct L), .fz (.dct Fd), y4, y5, y6, y7] = some [.fz (.str x), .fz (.lst g), .ow (.dct L), .fz (.dct Fd), .un, y5, .un, y7] := by
      cases y4 <;> cases y6 <;> first | rfl | (cases c4; done) | (cases c6; done)
    have dc := dcomp_gen (own := [6, 4]) (t := .tp [(.nm 6), (.nm 4)]) (τ := mTest (mOp opGt (mVar 4) (mC (.int 0)))) (φ := mVar 6) (ψ := mCallF 2 F_thing_at (mRc .fz (mVar 1) (mRc .fz (mVar 4) mNil))) di wp (told1 g) (fun d hd => by
      obtain ⟨p, hp, rfl⟩ := List.mem_map.mp hd
      obtain ⟨n, i, rfl, hi⟩ := c2 p hp
      refine ⟨[.fz (.str x), .fz (.lst g), .ow (.dct L), .fz (.dct Fd), .fz (.int i), y5, .fz (.str n), y7], by simp, rfl, fun hn => ?_, fun k y hk => ?_⟩
      · have hn : (if 0 < i then (match F_thing_at [.fz (.lst g), .fz (.int i)] with
          | .ok _ y _ => some (D.str n, y)
          | _ => none) else none) = none := hn
        by_cases h0 : 0 < i
        · rw [if_pos h0] at hn
          obtain ⟨t, ht, et⟩ := th i hi h0
          rw [et] at hn
          cases hn
        · simp [h0]
      · have hk : (if 0 < i then (match F_thing_at [.fz (.lst g), .fz (.int i)] with
          | .ok _ y _ => some (D.str n, y)
          | _ => none) else none) = some (k, y) := hk
        by_cases h0 : 0 < i
        · rw [if_pos h0] at hk
          obtain ⟨t, ht, et⟩ := th i hi h0
          rw [et] at hk
          cases hk
          exact ⟨rfl, by simp [h0], .sl 6, .fz t.1, by simp, by simp, by simp [et], rfl⟩
        · rw [if_neg h0] at hk
          cases hk) (by rw [List.length_map]; omega)
    have t10 : s_from_front_10 [.fz (.str x), .fz (.lst g), .ow (.dct L), .ow (.dct Fd), y4, y5, y6, y7] = .ok (.rt (.ow (.dct ((Fd.map fun p => D.tup [p.1, p.2]).foldl (stepD (told1 g)) [])))) (restE [6, 4] [.fz (.str x), .fz (.lst g), .ow (.dct L), .fz (.dct Fd), y4, y5, y6, y7] [.fz (.str x), .fz (.lst g), .ow (.dct L), .fz (.dct Fd), .un, y5, .un, y7]) := by
      unfold s_from_front_10
      rw [mRet_app, bnd_ok dc]
      rfl
    show runB 8 φ_from_front _ = _
    exact runB_ow (N := 8) (φ := φ_from_front) (ks := [.fz (.str x)]) (show φ_from_front [.fz (.str x), .un, .un, .un, .un, .un, .un, .un] = _ from (seq_nx t1).trans ((seq_nx t2).trans ((seq_nx t3).trans t10)))
end LW

namespace LW
open PySem DL
/-! ### from the end, by all -/
def dn : Nat → List D
  | 0 => []
  | m + 1 => .int ((m : Int) + 1) :: dn m
theorem range_dn : ∀ m : Nat, rangeC (m : Int) (-1) m = dn m
  | 0 => rfl
  | m + 1 => by
    unfold rangeC
    rw [List.range_succ_eq_map, List.map_cons, List.map_map]
    show _ = D.int ((m : Int) + 1) :: dn m
    rw [← range_dn m]
    have h0 : D.int (((m + 1 : Nat) : Int) + ((0 : Nat) : Int) * -1) = D.int ((m : Int) + 1) := by refine congrArg D.int ?_; omega
    rw [h0]
    refine congrArg (List.cons _) ?_
    unfold rangeC
    refine List.map_congr_left fun k _ => ?_
    show D.int (((m + 1 : Nat) : Int) + ((k + 1 : Nat) : Int) * -1) = D.int ((m : Int) + (k : Int) * -1)
    refine congrArg D.int ?_
    omega
theorem VA.at_ : ∀ {rs pre : List Rc} {i : Nat} {r : Rc}, VA pre rs → rs[i]? = some r → VR (pre ++ rs.take i) r
  | [], _, _, _, _, h => by cases h
  | a :: rs, pre, 0, r, v, h => by
    cases h
    rw [List.take_zero, List.append_nil]
    exact v.1
  | a :: rs, pre, i + 1, r, v, h => by
    have z := VA.at_ (pre := pre ++ [a]) (i := i) v.2 (by simpa using h)
    rw [List.append_assoc] at z
    exact z
theorem loop_rt {t : Tg} {body : M Ctl} {d : D} {ds : List D} {ρ ρ1 ρ2 : DL.Env} {a : AV} (h1 : bindT t d ρ = .ok () ρ1) (h2 : body ρ1 = .ok (.rt a) ρ2) : loopF t body (d :: ds) ρ = .ok (.rt a) ρ2 := by
  conv => lhs; unfold loopF
  rw [bnd_ok h1]
  simp only [h2]
theorem range3_run (m : Nat) (h : m ≤ 1000) (ρ : DL.Env) : range3 [.int (m : Int), .int 0, .int (-1)] ρ = .ok (dn m) ρ := by
  have h62 : (1001 : Int) ≤ 2 ^ 62 := by decide
  unfold range3
  simp only [Int.sub_zero, Int.toNat_natCast]
  rw [if_pos ⟨trivial, by omega, by omega, by omega, by omega⟩, range_dn]
  rfl
/-- a record's items that tell -/
def told2 (ds : List D) (N : Int) (d : D) : Option (D × D) := match d with
  | .tup [k, .int b] => if 0 < b then (match F_thing_at [.fz (.lst ds), .fz (.int (N - b))] with
    | .ok _ y _ => some (k, y)
    | _ => none) else none
  | _ => none
theorem VT.fold2 {f : D → Option (D × D)} : ∀ {l : List D} {acc : List (D × D)}, VT acc → (∀ d ∈ l, ∀ k y, f d = some (k, y) → ∃ (n : Str) (t : D × Str), k = .str n ∧ t ∈ T6 ∧ y = t.1) → VT (l.foldl (stepD f) acc)
  | [], acc, h, _ => h
  | d :: l, acc, h, hd => by
    rw [List.foldl_cons]
    refine VT.fold2 ?_ fun d hm => hd d (List.mem_cons_of_mem _ hm)
    unfold stepD
    cases e : f d with
    | none => exact h
    | some p =>
      obtain ⟨k, y⟩ := p
      obtain ⟨n, t, rfl, ht, rfl⟩ := hd d List.mem_cons_self k y e
      exact h.put ht
theorem item_thing {rs : List Rc} {m : Nat} {its : List (Str × Nat)} (v : VA [] rs) (hm : rs[m]? = some (.ls its)) {q : Str × Nat} (hq : q ∈ its) (h0 : 0 < q.2) : ∃ t ∈ T6, F_thing_at [.fz (.lst (rs.map Rc.d)), .fz (.int ((m : Int) + 1 - q.2))] = .ok false t.1 [] := by
  have z := VA.at_ v hm
  rw [List.nil_append] at z
  obtain ⟨_, _, h⟩ := z
  obtain ⟨_, _, hb⟩ := h q hq
  have hlt : m < rs.length := (List.getElem?_eq_some_iff.mp hm).1
  have tl : (rs.take m).length = m := by rw [List.length_take]; omega
  rcases hb with hb | ⟨h1, h2⟩
  · omega
  · have hh := isH_at (rs := rs) (pre := rs.take m) (n := q.1) (b := q.2) ⟨rs.drop m, (List.take_append_drop m rs).symm⟩ h1 h2
    rw [tl] at hh
    exact thing_run hh
theorem told2_ok {rs : List Rc} {m : Nat} {its : List (Str × Nat)} (v : VA [] rs) (hm : rs[m]? = some (.ls its)) : ∀ d ∈ its.map itD, ∀ k y, told2 (rs.map Rc.d) ((m : Int) + 1) d = some (k, y) → ∃ (n : Str) (t : D × Str), k = .str n ∧ t ∈ T6 ∧ y = t.1 := by
  intro d hd k y hk
  obtain ⟨q, hq, rfl⟩ := List.mem_map.mp hd
  have hk : (if 0 < (q.2 : Int) then (match F_thing_at [.fz (.lst (rs.map Rc.d)), .fz (.int ((m : Int) + 1 - q.2))] with
    | .ok _ y _ => some (D.str q.1, y)
    | _ => none) else none) = some (k, y) := hk
  by_cases h0 : 0 < q.2
  · obtain ⟨t, ht, et⟩ := item_thing v hm hq h0
    rw [if_pos (by omega), et] at hk
    cases hk
    exact ⟨q.1, t, rfl, ht, rfl⟩
  · rw [if_neg (by omega)] at hk
    cases hk
theorem end_turn {rs : List Rc} {m : Nat} {r : Rc} (v : VA [] rs) (hm : rs[m]? = some r) {x2 x3 x4 x5 : Sl} (h2 : isBo x2 = false) (h3 : isBo x3 = false) (h4 : isBo x4 = false) (h5 : isBo x5 = false) :
    (∀ T : Sl, ∃ ρ1, bindT (.nm 2) (.int ((m : Int) + 1)) [T, .ow (.lst (rs.map Rc.d)), x2, x3, x4, x5] = .ok () ρ1 ∧ s_from_end_3 ρ1 = .ok .nx [T, .ow (.lst (rs.map Rc.d)), .fz (.int ((m : Int) + 1)), x3, x4, x5]) ∨
    (∃ d, VT d ∧ ∀ T : Sl, ∃ ρ1 ρ2, bindT (.nm 2) (.int ((m : Int) + 1)) [T, .ow (.lst (rs.map Rc.d)), x2, x3, x4, x5] = .ok () ρ1 ∧ s_from_end_3 ρ1 = .ok (.rt (.ow (.dct d))) ρ2) := by
  have b1 : ∀ T : Sl, bindT (.nm 2) (.int ((m : Int) + 1)) [T, .ow (.lst (rs.map Rc.d)), x2, x3, x4, x5] = .ok () [T, .ow (.lst (rs.map Rc.d)), .fz (.int ((m : Int) + 1)), x3, x4, x5] := fun T => by simp [h2]
  have ej : (m : Int) + 1 - 1 = m := by omega
  have e1 : ixD (.lst (rs.map Rc.d)) (.int (m : Int)) = some (.fz r.d) := ix_nat (j := m) rfl (by rw [List.getElem?_map, hm]; rfl)
  cases r with
  | hd n t =>
    refine .inl fun T => ⟨_, b1 T, ?_⟩
    generalize rs.map Rc.d = g at *
    simp (decide := true) [s_from_end_3, ej, e1, Rc.d]
  | st n =>
    refine .inl fun T => ⟨_, b1 T, ?_⟩
    generalize rs.map Rc.d = g at *
    simp (decide := true) [s_from_end_3, ej, e1, Rc.d]
  | ls its =>
    have hv := VA.at_ v hm
    have h5' : its.length ≤ 5 := hv.1
    refine .inr ⟨(its.map itD).foldl (stepD (told2 (rs.map Rc.d) ((m : Int) + 1))) [], VT.fold2 VT.nil (told2_ok v hm), fun T => ?_⟩
    have th := fun (q : Str × Nat) (hq : q ∈ its) (h0 : 0 < q.2) => item_thing v hm hq h0
    have hd : (Rc.ls its).d = .tup [.str "list", .tup (its.map itD)] := rfl
    rw [hd] at e1
    generalize rs.map Rc.d = g at *
    have t1 : mTest (mOp opEq (mOp ixD (mOp ixD (mVar 1) (mOp opSub (mVar 2) (mC (.int 1)))) (mC (.int 0))) (mC (.str "list"))) [T, .ow (.lst g), .fz (.int ((m : Int) + 1)), x3, x4, x5] = .ok true [T, .ow (.lst g), .fz (.int ((m : Int) + 1)), x3, x4, x5] := by simp [ej, e1]
    have t4 : s_from_end_4 [T, .ow (.lst g), .fz (.int ((m : Int) + 1)), x3, x4, x5] = .ok .nx [T, .ow (.lst g), .fz (.int ((m : Int) + 1)), .fz (.tup (its.map itD)), x4, x5] := by simp [s_from_end_4, ej, e1, h3]
    have i1 : mItems (mVar 3) [T, .ow (.lst g), .fz (.int ((m : Int) + 1)), .fz (.tup (its.map itD)), x4, x5] = .ok (its.map itD) [T, .ow (.lst g), .fz (.int ((m : Int) + 1)), .fz (.tup (its.map itD)), x4, x5] := by simp
    have wp : wipeE [4, 5] [T, .ow (.lst g), .fz (.int ((m : Int) + 1)), .fz (.tup (its.map itD)), x4, x5] = some [T, .ow (.lst g), .fz (.int ((m : Int) + 1)), .fz (.tup (its.map itD)), .un, .un] := by
      cases x4 <;> cases x5 <;> first | rfl | (cases h4; done) | (cases h5; done)
    obtain ⟨ρE, dc, hE⟩ := dcomp_I (own := [4, 5]) (t := .tp [(.nm 4), (.nm 5)]) (τ := mTest (mOp opGt (mVar 5) (mC (.int 0)))) (φ := mVar 4) (ψ := mCallF 2 F_thing_at (mRc .fz (mVar 1) (mRc .fz (mOp opSub (mVar 2) (mVar 5)) mNil))) i1 wp (told2 g ((m : Int) + 1)) (fun ρ => ∃ R, LsOf R g ∧ ρ = [T, R, .fz (.int ((m : Int) + 1)), .fz (.tup (its.map itD)), .un, .un]) ⟨_, .inl rfl, rfl⟩ (fun d hd ρ1 ⟨R, hR, e⟩ => by
      subst e
      obtain ⟨q, hq, rfl⟩ := List.mem_map.mp hd
      refine ⟨[T, R, .fz (.int ((m : Int) + 1)), .fz (.tup (its.map itD)), .fz (.str q.1), .fz (.int q.2)], by simp [itD], fun hn => ?_, fun k y hk => ?_⟩
      · have hn : (if 0 < (q.2 : Int) then (match F_thing_at [.fz (.lst g), .fz (.int ((m : Int) + 1 - q.2))] with
          | .ok _ y _ => some (D.str q.1, y)
          | _ => none) else none) = none := hn
        by_cases h0 : 0 < q.2
        · obtain ⟨t, ht, et⟩ := th q hq h0
          rw [if_pos (by omega), et] at hn
          cases hn
        · exact ⟨by simp [h0], _, rfl, R, hR, rfl⟩
      · have hk : (if 0 < (q.2 : Int) then (match F_thing_at [.fz (.lst g), .fz (.int ((m : Int) + 1 - q.2))] with
          | .ok _ y _ => some (D.str q.1, y)
          | _ => none) else none) = some (k, y) := hk
        by_cases h0 : 0 < q.2
        · obtain ⟨t, ht, et⟩ := th q hq h0
          rw [if_pos (by omega), et] at hk
          cases hk
          refine ⟨rfl, by simp [h0], .sl 4, .fz t.1, [T, .fz (.lst g), .fz (.int ((m : Int) + 1)), .fz (.tup (its.map itD)), .fz (.str q.1), .fz (.int q.2)], _, by simp, by simp, ?_, rfl, rfl, .fz (.lst g), .inr rfl, rfl⟩
          rcases hR with rfl | rfl <;> simp [et]
        · rw [if_neg (by omega)] at hk
          cases hk) (by rw [List.length_map]; omega)
    obtain ⟨R, hR, rfl⟩ := hE
    refine ⟨_, restE [4, 5] [T, .ow (.lst g), .fz (.int ((m : Int) + 1)), .fz (.tup (its.map itD)), x4, x5] [T, R, .fz (.int ((m : Int) + 1)), .fz (.tup (its.map itD)), .un, .un], b1 T, ?_⟩
    unfold s_from_end_3
    rw [if_t t1, seq_nx t4]
    unfold s_from_end_5
    rw [mRet_app, bnd_ok dc]
    rfl
theorem end_loop {rs : List Rc} (v : VA [] rs) : ∀ (m : Nat) (x2 x3 x4 x5 : Sl), m ≤ rs.length → isBo x2 = false → isBo x3 = false → isBo x4 = false → isBo x5 = false →
    (∃ y2, ∀ T : Sl, loopF (.nm 2) s_from_end_3 (dn m) [T, .ow (.lst (rs.map Rc.d)), x2, x3, x4, x5] = .ok .nx [T, .ow (.lst (rs.map Rc.d)), y2, x3, x4, x5]) ∨
    (∃ d, VT d ∧ ∀ T : Sl, ∃ ρ2, loopF (.nm 2) s_from_end_3 (dn m) [T, .ow (.lst (rs.map Rc.d)), x2, x3, x4, x5] = .ok (.rt (.ow (.dct d))) ρ2)
  | 0, x2, x3, x4, x5, _, _, _, _, _ => .inl ⟨x2, fun T => rfl⟩
  | m + 1, x2, x3, x4, x5, hm, h2, h3, h4, h5 => by
    have hr : rs[m]? = some rs[m] := List.getElem?_eq_getElem (by omega)
    rcases end_turn v hr h2 h3 h4 h5 with a | ⟨d, hd, a⟩
    · rcases end_loop v m (.fz (.int ((m : Int) + 1))) x3 x4 x5 (by omega) rfl h3 h4 h5 with ⟨y2, e⟩ | ⟨d, hd, e⟩
      · refine .inl ⟨y2, fun T => ?_⟩
        obtain ⟨ρ1, b1, b2⟩ := a T
        unfold dn
        rw [loop_cons b1 (.inl b2)]
        exact e T
      · refine .inr ⟨d, hd, fun T => ?_⟩
        obtain ⟨ρ1, b1, b2⟩ := a T
        obtain ⟨ρ2, e⟩ := e T
        refine ⟨ρ2, ?_⟩
        unfold dn
        rw [loop_cons b1 (.inl b2)]
        exact e
    · refine .inr ⟨d, hd, fun T => ?_⟩
      obtain ⟨ρ1, ρ2, b1, b2⟩ := a T
      exact ⟨ρ2, by unfold dn; exact loop_rt b1 b2⟩
theorem down_run {g : List D} {ρ ρ' : DL.Env} (h : mVar 1 ρ = .ok (.sl 1) ρ) (e : ρ[1]? = some (.ow (.lst g))) (hl : g.length ≤ 1000) : mIt range3 (mCons (mCall fLen (mCons (mVar 1) mNil)) (mCons (mC (.int 0)) (mCons (mUn unNeg (mC (.int 1))) mNil))) ρ = .ok (dn g.length) ρ := by
  have r3 := range3_run g.length hl ρ
  have a1 : mCons (mCall fLen (mCons (mVar 1) mNil)) (mCons (mC (.int 0)) (mCons (mUn unNeg (mC (.int 1))) mNil)) ρ = .ok [.fz (.int g.length), .fz (.int 0), .fz (.int (-1))] ρ := by simp [e]
  have a2 : rdAll [.fz (.int g.length), .fz (.int 0), .fz (.int (-1))] ρ = .ok [.int g.length, .int 0, .int (-1)] ρ := by simp
  generalize range3 = R3 at *
  unfold mIt
  rw [bnd_ok a1, bnd_ok a2]
  exact r3
theorem end_run {rs : List Rc} (v : VA [] rs) (hl : rs.length ≤ 12) : ∃ d, VT d ∧ ∀ x, Wh rs x → F_from_end [.fz (.str x)] = .ok true (.dct d) [] := by
  have gl : (rs.map Rc.d).length = rs.length := List.length_map _
  have pre : ∀ x, Wh rs x → s_from_end_1 [.fz (.str x), .un, .un, .un, .un, .un] = .ok .nx [.fz (.str x), .ow (.lst (rs.map Rc.d)), .un, .un, .un, .un] ∧ mIt range3 (mCons (mCall fLen (mCons (mVar 1) mNil)) (mCons (mC (.int 0)) (mCons (mUn unNeg (mC (.int 1))) mNil))) [.fz (.str x), .ow (.lst (rs.map Rc.d)), .un, .un, .un, .un] = .ok (dn rs.length) [.fz (.str x), .ow (.lst (rs.map Rc.d)), .un, .un, .un, .un] := fun x hx => by
    have r0 := recs_of v hl hx [.un, .un, .un, .un, .un]
    have dr := down_run (g := rs.map Rc.d) (ρ := [.fz (.str x), .ow (.lst (rs.map Rc.d)), .un, .un, .un, .un]) (ρ' := []) rfl rfl (by omega)
    rw [gl] at dr
    refine ⟨?_, dr⟩
    unfold s_from_end_1
    rw [mAsg_app, bnd_ok r0]
    simp
  rcases end_loop v rs.length .un .un .un .un (Nat.le_refl _) rfl rfl rfl rfl with ⟨y2, e⟩ | ⟨d, hd, e⟩
  · refine ⟨[], VT.nil, fun x hx => ?_⟩
    obtain ⟨t1, dr⟩ := pre x hx
    have t2 : s_from_end_2 [.fz (.str x), .ow (.lst (rs.map Rc.d)), .un, .un, .un, .un] = .ok .nx [.fz (.str x), .ow (.lst (rs.map Rc.d)), y2, .un, .un, .un] := by
      unfold s_from_end_2
      rw [for_run dr]
      exact e _
    have t6 : s_from_end_6 [.fz (.str x), .ow (.lst (rs.map Rc.d)), y2, .un, .un, .un] = .ok (.rt (.ow (.dct []))) [.fz (.str x), .ow (.lst (rs.map Rc.d)), y2, .un, .un, .un] := by simp [s_from_end_6]
    show runB 6 φ_from_end _ = _
    exact runB_ow (N := 6) (φ := φ_from_end) (ks := [.fz (.str x)]) (show φ_from_end [.fz (.str x), .un, .un, .un, .un, .un] = _ from (seq_nx t1).trans ((seq_nx t2).trans t6))
  · refine ⟨d, hd, fun x hx => ?_⟩
    obtain ⟨t1, dr⟩ := pre x hx
    obtain ⟨ρ2, e⟩ := e (.fz (.str x))
    have t2 : s_from_end_2 [.fz (.str x), .ow (.lst (rs.map Rc.d)), .un, .un, .un, .un] = .ok (.rt (.ow (.dct d))) ρ2 := by
      unfold s_from_end_2
      rw [for_run dr]
      exact e
    show runB 6 φ_from_end _ = _
    rw [runB_ow (N := 6) (φ := φ_from_end) (ks := [.fz (.str x)]) (show φ_from_end [.fz (.str x), .un, .un, .un, .un, .un] = _ from (seq_nx t1).trans (seq_rt t2)), bosF_no _ _ rfl]
end LW

namespace LW
open PySem DL
/-! ### by all -/
theorem all_items {g : List D} {N : Int} : ∀ (its : List (Str × Nat)) (R : Sl) (Sp Fd : List (D × D)) (x5 x6 : Sl), (∀ q ∈ its, 0 < q.2 → ∃ t ∈ T6, F_thing_at [.fz (.lst g), .fz (.int (N - q.2))] = .ok false t.1 []) → LsOf R g → VT Fd → Sp.length + its.length ≤ 1000 → Fd.length + its.length ≤ 1000 → isBo x5 = false → isBo x6 = false →
    ∃ R' Sp' Fd' y5 y6, LsOf R' g ∧ VT Fd' ∧ Sp'.length ≤ Sp.length + its.length ∧ Fd'.length ≤ Fd.length + its.length ∧ isBo y5 = false ∧ isBo y6 = false ∧ ∀ T : Sl, loopF (.tp [.nm 5, .nm 6]) (mSeq s_by_all_6 s_by_all_8) (its.map itD) [T, R, .ow (.dct Sp), .ow (.dct Fd), .fz (.int N), x5, x6] = .ok .nx [T, R', .ow (.dct Sp'), .ow (.dct Fd'), .fz (.int N), y5, y6]
  | [], R, Sp, Fd, x5, x6, _, hR, hF, _, _, h5, h6 => ⟨R, Sp, Fd, x5, x6, hR, hF, by simp, by simp, h5, h6, fun T => rfl⟩
  | q :: its, R, Sp, Fd, x5, x6, th, hR, hF, l1, l2, h5, h6 => by
    rw [List.length_cons] at l1 l2
    have b1 : ∀ T : Sl, bindT (.tp [.nm 5, .nm 6]) (itD q) [T, R, .ow (.dct Sp), .ow (.dct Fd), .fz (.int N), x5, x6] = .ok () [T, R, .ow (.dct Sp), .ow (.dct Fd), .fz (.int N), .fz (.str q.1), .fz (.int q.2)] := fun T => by simp [itD, h5, h6]
    have hz : Sp.length < sizeLine := by have := sl_small 1000000 (by omega); omega
    have hz2 : Fd.length < sizeLine := by have := sl_small 1000000 (by omega); omega
    have c : ∃ R1 Fd1, LsOf R1 g ∧ VT Fd1 ∧ Fd1.length ≤ Fd.length + 1 ∧ ∀ T : Sl, s_by_all_6 [T, R, .ow (.dct Sp), .ow (.dct Fd), .fz (.int N), .fz (.str q.1), .fz (.int q.2)] = .ok .nx [T, R1, .ow (.dct Sp), .ow (.dct Fd1), .fz (.int N), .fz (.str q.1), .fz (.int q.2)] := by
      by_cases hs : (getK Sp (.inr q.1)).isSome = true
      · refine ⟨R, Fd, hR, hF, by omega, fun T => ?_⟩
        simp [s_by_all_6, hs]
      · have hs : (getK Sp (.inr q.1)).isSome = false := by simpa using hs
        by_cases h0 : 0 < q.2
        · obtain ⟨t, ht, et⟩ := th q List.mem_cons_self h0
          refine ⟨.fz (.lst g), putD Fd (.str q.1) t.1, .inr rfl, hF.put ht, putD_len, fun T => ?_⟩
          rcases hR with rfl | rfl <;> simp [s_by_all_6, s_by_all_7, hs, h0, et, hz2]
        · refine ⟨R, Fd, hR, hF, by omega, fun T => ?_⟩
          simp [s_by_all_6, hs, h0]
    obtain ⟨R1, Fd1, hR1, hF1, l3, c⟩ := c
    have c2 : ∀ T : Sl, s_by_all_8 [T, R1, .ow (.dct Sp), .ow (.dct Fd1), .fz (.int N), .fz (.str q.1), .fz (.int q.2)] = .ok .nx [T, R1, .ow (.dct (putD Sp (.str q.1) (.bl true))), .ow (.dct Fd1), .fz (.int N), .fz (.str q.1), .fz (.int q.2)] := fun T => by simp [s_by_all_8, hz]
    have pl := putD_len (kvs := Sp) (k := .str q.1) (v := .bl true)
    obtain ⟨R', Sp', Fd', y5, y6, a1, a2, a3, a4, a5, a6, e⟩ := all_items its R1 (putD Sp (.str q.1) (.bl true)) Fd1 (.fz (.str q.1)) (.fz (.int q.2)) (fun q hq => th q (List.mem_cons_of_mem _ hq)) hR1 hF1 (by omega) (by omega) rfl rfl
    refine ⟨R', Sp', Fd', y5, y6, a1, a2, by rw [List.length_cons]; omega, by rw [List.length_cons]; omega, a5, a6, fun T => ?_⟩
    rw [List.map_cons, loop_cons (b1 T) (.inl ((seq_nx (c T)).trans (c2 T)))]
    exact e T
theorem all_turn {rs : List Rc} {m : Nat} {r : Rc} (v : VA [] rs) (hm : rs[m]? = some r) {R : Sl} {Sp Fd : List (D × D)} {x4 x5 x6 : Sl} (hR : LsOf R (rs.map Rc.d)) (hF : VT Fd) (l1 : Sp.length ≤ 900) (l2 : Fd.length ≤ 900) (h4 : isBo x4 = false) (h5 : isBo x5 = false) (h6 : isBo x6 = false) :
    ∃ R' Sp' Fd' y5 y6, LsOf R' (rs.map Rc.d) ∧ VT Fd' ∧ Sp'.length ≤ Sp.length + 5 ∧ Fd'.length ≤ Fd.length + 5 ∧ isBo y5 = false ∧ isBo y6 = false ∧ ∀ T : Sl, ∃ ρ1, bindT (.nm 4) (.int ((m : Int) + 1)) [T, R, .ow (.dct Sp), .ow (.dct Fd), x4, x5, x6] = .ok () ρ1 ∧ s_by_all_4 ρ1 = .ok .nx [T, R', .ow (.dct Sp'), .ow (.dct Fd'), .fz (.int ((m : Int) + 1)), y5, y6] := by
  have b1 : ∀ T : Sl, bindT (.nm 4) (.int ((m : Int) + 1)) [T, R, .ow (.dct Sp), .ow (.dct Fd), x4, x5, x6] = .ok () [T, R, .ow (.dct Sp), .ow (.dct Fd), .fz (.int ((m : Int) + 1)), x5, x6] := fun T => by simp [h4]
  have ej : (m : Int) + 1 - 1 = m := by omega
  have e1 : ixD (.lst (rs.map Rc.d)) (.int (m : Int)) = some (.fz r.d) := ix_nat (j := m) rfl (by rw [List.getElem?_map, hm]; rfl)
  cases r with
  | hd n t =>
    refine ⟨R, Sp, Fd, x5, x6, hR, hF, by omega, by omega, h5, h6, fun T => ⟨_, b1 T, ?_⟩⟩
    generalize rs.map Rc.d = g at *
    rcases hR with rfl | rfl <;> simp (decide := true) [s_by_all_4, ej, e1, Rc.d]
  | st n =>
    refine ⟨R, Sp, Fd, x5, x6, hR, hF, by omega, by omega, h5, h6, fun T => ⟨_, b1 T, ?_⟩⟩
    generalize rs.map Rc.d = g at *
    rcases hR with rfl | rfl <;> simp (decide := true) [s_by_all_4, ej, e1, Rc.d]
  | ls its =>
    have h5' : its.length ≤ 5 := (VA.at_ v hm).1
    have th := fun (q : Str × Nat) (hq : q ∈ its) (h0 : 0 < q.2) => item_thing v hm hq h0
    have hd : (Rc.ls its).d = .tup [.str "list", .tup (its.map itD)] := rfl
    rw [hd] at e1
    generalize rs.map Rc.d = g at *
    obtain ⟨R', Sp', Fd', y5, y6, a1, a2, a3, a4, a5, a6, e⟩ := all_items (N := (m : Int) + 1) its R Sp Fd x5 x6 th hR hF (by omega) (by omega) h5 h6
    refine ⟨R', Sp', Fd', y5, y6, a1, a2, by omega, by omega, a5, a6, fun T => ⟨_, b1 T, ?_⟩⟩
    have t1 : mTest (mOp opEq (mOp ixD (mOp ixD (mVar 1) (mOp opSub (mVar 4) (mC (.int 1)))) (mC (.int 0))) (mC (.str "list"))) [T, R, .ow (.dct Sp), .ow (.dct Fd), .fz (.int ((m : Int) + 1)), x5, x6] = .ok true [T, R, .ow (.dct Sp), .ow (.dct Fd), .fz (.int ((m : Int) + 1)), x5, x6] := by
      rcases hR with rfl | rfl <;> simp [ej, e1]
    have i1 : mItems (mOp ixD (mOp ixD (mVar 1) (mOp opSub (mVar 4) (mC (.int 1)))) (mC (.int 1))) [T, R, .ow (.dct Sp), .ow (.dct Fd), .fz (.int ((m : Int) + 1)), x5, x6] = .ok (its.map itD) [T, R, .ow (.dct Sp), .ow (.dct Fd), .fz (.int ((m : Int) + 1)), x5, x6] := by
      rcases hR with rfl | rfl <;> simp [ej, e1]
    unfold s_by_all_4
    rw [if_t t1]
    unfold s_by_all_5
    rw [for_run i1]
    exact e T
theorem all_loop {rs : List Rc} (v : VA [] rs) : ∀ (m : Nat) (R : Sl) (Sp Fd : List (D × D)) (x4 x5 x6 : Sl), m ≤ rs.length → LsOf R (rs.map Rc.d) → VT Fd → Sp.length + 5 * m ≤ 900 → Fd.length + 5 * m ≤ 900 → isBo x4 = false → isBo x5 = false → isBo x6 = false →
    ∃ R' Sp' Fd' y4 y5 y6, VT Fd' ∧ ∀ T : Sl, loopF (.nm 4) s_by_all_4 (dn m) [T, R, .ow (.dct Sp), .ow (.dct Fd), x4, x5, x6] = .ok .nx [T, R', .ow (.dct Sp'), .ow (.dct Fd'), y4, y5, y6]
  | 0, R, Sp, Fd, x4, x5, x6, _, _, hF, _, _, _, _, _ => ⟨R, Sp, Fd, x4, x5, x6, hF, fun T => rfl⟩
  | m + 1, R, Sp, Fd, x4, x5, x6, hm, hR, hF, l1, l2, h4, h5, h6 => by
    have hr : rs[m]? = some rs[m] := List.getElem?_eq_getElem (by omega)
    obtain ⟨R1, Sp1, Fd1, y5, y6, a1, a2, a3, a4, a5, a6, a⟩ := all_turn (x4 := x4) (Sp := Sp) v hr hR hF (by omega) (by omega) h4 h5 h6
    obtain ⟨R', Sp', Fd', z4, z5, z6, hF', e⟩ := all_loop v m R1 Sp1 Fd1 (.fz (.int ((m : Int) + 1))) y5 y6 (by omega) a1 a2 (by omega) (by omega) rfl a5 a6
    refine ⟨R', Sp', Fd', z4, z5, z6, hF', fun T => ?_⟩
    obtain ⟨ρ1, b1, b2⟩ := a T
    unfold dn
    rw [loop_cons b1 (.inl b2)]
    exact e T
theorem all_run {rs : List Rc} (v : VA [] rs) (hl : rs.length ≤ 12) : ∃ d, VT d ∧ ∀ x, Wh rs x → F_by_all [.fz (.str x)] = .ok true (.dct d) [] := by
  have gl : (rs.map Rc.d).length = rs.length := List.length_map _
  obtain ⟨R', Sp', Fd', y4, y5, y6, hF, e⟩ := all_loop v rs.length (.ow (.lst (rs.map Rc.d))) [] [] .un .un .un (Nat.le_refl _) (.inl rfl) VT.nil (by rw [List.length_nil]; omega) (by rw [List.length_nil]; omega) rfl rfl rfl
  refine ⟨Fd', hF, fun x hx => ?_⟩
  have r0 := recs_of v hl hx [.un, .un, .un, .un, .un, .un]
  have dr := down_run (g := rs.map Rc.d) (ρ := [.fz (.str x), .ow (.lst (rs.map Rc.d)), .ow (.dct []), .ow (.dct []), .un, .un, .un]) (ρ' := []) rfl rfl (by omega)
  rw [gl] at dr
  have t1 : s_by_all_1 [.fz (.str x), .un, .un, .un, .un, .un, .un] = .ok .nx [.fz (.str x), .ow (.lst (rs.map Rc.d)), .un, .un, .un, .un, .un] := by
    unfold s_by_all_1
    rw [mAsg_app, bnd_ok r0]
    simp
  have t2 : s_by_all_2 [.fz (.str x), .ow (.lst (rs.map Rc.d)), .un, .un, .un, .un, .un] = .ok .nx [.fz (.str x), .ow (.lst (rs.map Rc.d)), .ow (.dct []), .ow (.dct []), .un, .un, .un] := by simp [s_by_all_2]
  have t3 : s_by_all_3 [.fz (.str x), .ow (.lst (rs.map Rc.d)), .ow (.dct []), .ow (.dct []), .un, .un, .un] = .ok .nx [.fz (.str x), R', .ow (.dct Sp'), .ow (.dct Fd'), y4, y5, y6] := by
    unfold s_by_all_3
    rw [for_run dr]
    exact e _
  have t9 : s_by_all_9 [.fz (.str x), R', .ow (.dct Sp'), .ow (.dct Fd'), y4, y5, y6] = .ok (.rt (.sl 3)) [.fz (.str x), R', .ow (.dct Sp'), .ow (.dct Fd'), y4, y5, y6] := by simp [s_by_all_9]
  show runB 7 φ_by_all _ = _
  exact runB_so (N := 7) (φ := φ_by_all) (ks := [.fz (.str x)]) (i := 3) (show φ_by_all [.fz (.str x), .un, .un, .un, .un, .un, .un] = _ from (seq_nx t1).trans ((seq_nx t2).trans ((seq_nx t3).trans t9))) rfl
theorem told_run {rs : List Rc} (v : VA [] rs) (hl : rs.length ≤ 12) : ∃ L, opNeX (.lst L) (.lst L) = some (.fz (.bl false)) ∧ ∀ x, Wh rs x → F_law_told [.fz (.str x)] = .ok true (.lst L) [] := by
  obtain ⟨a, ha, ea⟩ := front_run v hl
  obtain ⟨b, hb, eb⟩ := end_run v hl
  obtain ⟨c, hc, ec⟩ := all_run v hl
  have s3 : (3 : Nat) ≤ sizeLine := sl_small 3 (by omega)
  refine ⟨[.dct a, .dct b, .dct c], ?_, fun x hx => ?_⟩
  · have tt : ∀ t ∈ T6, (eqD t.1 38 t.1 == some true) = true := of6 (by decide +kernel) (by decide +kernel) (by decide +kernel) (by decide +kernel) (by decide +kernel) (by decide +kernel)
    have same : ∀ (d e : List (D × D)) (n : Nat), (∀ p ∈ e, p ∈ d) → VT d → sameXK e n d = true := fun d e n => by
      intro hm hv
      induction e with
      | nil => unfold sameXK; rfl
      | cons p e ih =>
        obtain ⟨k, t, rfl, ht, g⟩ := hv p (hm p List.mem_cons_self)
        unfold sameXK
        rw [ih fun p hp => hm p (List.mem_cons_of_mem _ hp), Bool.and_true]
        show (match getK d (.inr k) with
          | some u => sameX t.1 n u
          | none => false) = true
        rw [g]
        have tq := tt t ht
        have isT : ∃ l, t.1 = .tup l := (of6 (p := fun t => ∃ l, t.1 = D.tup l) ⟨_, rfl⟩ ⟨_, rfl⟩ ⟨_, rfl⟩ ⟨_, rfl⟩ ⟨_, rfl⟩ ⟨_, rfl⟩) t ht
        obtain ⟨l, el⟩ := isT
        rw [el] at tq ⊢
        unfold sameX
        exact tq
    have one : ∀ d, VT d → sameX (.dct d) 19 (.dct d) = true := fun d hd => by
      unfold sameX
      simp only [beq_self_eq_true, Bool.true_and]
      exact same d d 18 (fun p hp => hp) hd
    have n0 : opNe (.lst [.dct a, .dct b, .dct c]) (.lst [.dct a, .dct b, .dct c]) = none := by
      unfold opNe eqD
      simp only [List.length_cons, if_true]
      unfold eqL eqD
      rfl
    have sx : sameX (.lst [.dct a, .dct b, .dct c]) 20 (.lst [.dct a, .dct b, .dct c]) = true := by
      have nl : ∀ n, sameXL [] n [] = true := fun n => by unfold sameXL; rfl
      have cl : ∀ (p q : D) (xs ys : List D) (n : Nat), sameXL (p :: xs) n (q :: ys) = (sameX p n q && sameXL xs n ys) := fun p q xs ys n => by
        conv => lhs; unfold sameXL
      have lx : ∀ (xs : List D), sameX (.lst xs) 20 (.lst xs) = (xs.length == xs.length && sameXL xs 19 xs) := fun xs => by
        conv => lhs; unfold sameX
      rw [lx, cl, cl, cl, nl, one a ha, one b hb, one c hc]
      rfl
    unfold opNeX
    rw [n0]
    show (if (true && sameX (.lst [.dct a, .dct b, .dct c]) 20 (.lst [.dct a, .dct b, .dct c])) = true then some (AV.fz (.bl false)) else none) = _
    rw [sx]
    rfl
  · have e1 := ea x hx
    have e2 := eb x hx
    have e3 := ec x hx
    show runB 1 φ_law_told _ = _
    refine runB_ow (N := 1) (φ := φ_law_told) (ks := [.fz (.str x)]) (ρ' := [.fz (.str x)]) ?_
    show s_law_told_1 _ = _
    simp [s_law_told_1, e1, e2, e3, s3]
end LW

namespace LW
open PySem DL
/-! ### what is drawn -/
theorem sl2 : (2 : Nat) ≤ sizeLine := sl_small 2 (by omega)
theorem opMul_i (i j : Int) (h : L2.CMul i j) : opMul (.int i) (.int j) = some (.fz (.int (i * j))) := by
  show (if L2.CMul i j then some (AV.fz (.int (i * j))) else none) = _
  rw [if_pos h]
theorem opMod_i (i j : Int) (h : 0 < j) : opMod (.int i) (.int j) = some (.fz (.int (i % j))) := by
  show (if 0 < j then some (AV.fz (.int (i % j))) else none) = _
  rw [if_pos h]
theorem opDiv_i (i j : Int) (h : L2.CDiv i j) : opDiv (.int i) (.int j) = some (.fz (.int (i / j))) := by
  show (if L2.CDiv i j then some (AV.fz (.int (i / j))) else none) = _
  rw [if_pos h]
@[simp] theorem fInt_i (i : Int) : fInt [.int i] = some (.fz (.int i)) := rfl
@[simp] theorem fAbs_i (i : Int) : fAbs [.int i] = some (.fz (.int (if i < 0 then -i else i))) := rfl
@[simp] theorem fMax_i (i j : Int) : fMax [.int i, .int j] = some (.fz (.int (if j > i then j else i))) := rfl
@[simp] theorem fMin_i (i j : Int) : fMin [.int i, .int j] = some (.fz (.int (if j < i then j else i))) := rfl
@[simp] theorem fLen_scr (l : List Int) : fLen [.scr l] = some (.fz (.int l.length)) := rfl
@[simp] theorem ix_l0 (a : D) (r : List D) : ixD (.lst (a :: r)) (.int 0) = some (.fz a) := by
  show ((L2.atI (a :: r) 0).map AV.fz) = _
  rw [show L2.atI (a :: r) 0 = some a from L2.atI_nat (j := 0) rfl]; rfl
@[simp] theorem ix_l1 (a c : D) (r : List D) : ixD (.lst (a :: c :: r)) (.int 1) = some (.fz c) := by
  show ((L2.atI (a :: c :: r) 1).map AV.fz) = _
  rw [show L2.atI (a :: c :: r) 1 = some c from L2.atI_nat (j := 1) rfl]; rfl
@[simp] theorem set_l0 (a b x : D) : setD (.lst [a, b]) (.int 0) x = some (.lst [x, b]) := by
  unfold setD
  simp [L2.ixN]
@[simp] theorem set_l1 (a b x : D) : setD (.lst [a, b]) (.int 1) x = some (.lst [a, x]) := by
  unfold setD
  simp [L2.ixN]
def feed (a b : Int) : D := .lst [.int a, .int b]
theorem big (x : Int) : L2.CMul x 6364136223846793005 := .inr (by decide)
theorem take_run (a b m : Int) (h : 0 < m) (h2 : m < 1000) : ∃ r a' b', 0 ≤ r ∧ r < m ∧ F_law_take [.bo (feed a b), .fz (.int m)] = .ok false (.int r) [feed a' b'] := by
  have cm : L2.CDiv a m := ⟨h, by omega⟩
  by_cases ha : 0 < a
  · refine ⟨a % m, a / m, b, Int.emod_nonneg _ (by omega), Int.emod_lt_of_pos _ h, ?_⟩
    have h59 : s_law_take_1 [.bo (feed a b), .fz (.int m), .un] = .ok (.rt (.sl 2)) [.bo (feed (a / m) b), .fz (.int m), .fz (.int (a % m))] := by
      simp [s_law_take_1, s_law_take_2, s_law_take_3, s_law_take_4, feed, ha, opMod_i _ _ h, opDiv_i _ _ cm]
    have : φ_law_take [.bo (feed a b), .fz (.int m), .un] = _ := seq_rt h59
    simp [F_law_take, runB, this, bosF]
  · have c1 : L2.CDiv (((b * 6364136223846793005 + 1442695040888963407) % 2305843009213693951)) 65536 := ⟨by decide, by decide⟩
    refine ⟨(((b * 6364136223846793005 + 1442695040888963407) % 2305843009213693951) / 65536) % m, a, (b * 6364136223846793005 + 1442695040888963407) % 2305843009213693951, Int.emod_nonneg _ (by omega), Int.emod_lt_of_pos _ h, ?_⟩
    have h59 : s_law_take_1 [.bo (feed a b), .fz (.int m), .un] = .ok .nx [.bo (feed a b), .fz (.int m), .un] := by
      simp [s_law_take_1, feed, ha]
    have h63 : s_law_take_5 [.bo (feed a b), .fz (.int m), .un] = .ok .nx [.bo (feed a ((b * 6364136223846793005 + 1442695040888963407) % 2305843009213693951)), .fz (.int m), .un] := by
      simp [s_law_take_5, feed, opMul_i _ _ (big b), opMod_i _ 2305843009213693951 (by decide)]
    have h64 : s_law_take_6 [.bo (feed a ((b * 6364136223846793005 + 1442695040888963407) % 2305843009213693951)), .fz (.int m), .un] = .ok (.rt (.fz (.int ((((b * 6364136223846793005 + 1442695040888963407) % 2305843009213693951) / 65536) % m)))) [.bo (feed a ((b * 6364136223846793005 + 1442695040888963407) % 2305843009213693951)), .fz (.int m), .un] := by
      simp [s_law_take_6, feed, opDiv_i _ _ c1, opMod_i _ _ h]
    have : φ_law_take [.bo (feed a b), .fz (.int m), .un] = _ := (seq_nx h59).trans ((seq_nx h63).trans h64)
    simp [F_law_take, runB, this, bosF]
theorem pick_run (a b : Int) (l : List D) (h : l ≠ []) (h2 : l.length < 1000) : ∃ x a' b', x ∈ l ∧ F_law_pick [.bo (feed a b), .fz (.lst l)] = .ok false x [feed a' b'] := by
  have hl : 0 < l.length := List.length_pos_iff.mpr h
  obtain ⟨r, a', b', h0, h1, e⟩ := take_run a b (l.length : Int) (by omega) (by omega)
  obtain ⟨j, rfl⟩ : ∃ j : Nat, r = (j : Int) := ⟨r.toNat, by omega⟩
  have hj : j < l.length := by omega
  refine ⟨l[j], a', b', List.getElem_mem hj, ?_⟩
  have ei : ixD (.lst l) (.int (j : Int)) = some (.fz l[j]) := ix_nat rfl (List.getElem?_eq_getElem hj)
  have : φ_law_pick [.bo (feed a b), .fz (.lst l)] = .ok (.rt (.fz l[j])) [.bo (feed a' b'), .fz (.lst l)] := by
    show s_law_pick_1 _ = _
    simp [s_law_pick_1, e, ei]
  simp [F_law_pick, runB, this, bosF]
theorem feed_run (ns : List Int) (k : Nat) (hk : k < 3) : ∃ a b, F_law_feed [.fz (.scr ns), .fz (.int k)] = .ok true (feed a b) [] := by
  have h61 : opMul (.int 61) (.int (k : Int)) = some (.fz (.int (61 * k))) := opMul_i _ _ (.inl (by decide))
  have h79 : opMul (.int 7919) (.int (k : Int)) = some (.fz (.int (7919 * k))) := opMul_i _ _ (.inl (by decide))
  have hpw : opPow (.int 10) (.int 18) = some (.fz (.int (10 ^ 18))) := by
    show (if L2.CPow 10 18 then some (AV.fz (.int (10 ^ (18 : Int).toNat))) else none) = _
    rw [if_pos (by unfold L2.CPow; decide)]; rfl
  have h54 : ∃ c, s_law_feed_1 [.fz (.scr ns), .fz (.int k), .un, .un, .un] = .ok .nx [.fz (.scr ns), .fz (.int k), .fz (.int c), .un, .un] := by
    by_cases hl : k < ns.length
    · refine ⟨ns[k], ?_⟩
      have ei : ixD (.scr ns) (.int (k : Int)) = some (.fz (.int ns[k])) := by
        show ((L2.atI ns (k : Int)).map fun n => AV.fz (.int n)) = _
        rw [L2.atI_nat (List.getElem?_eq_getElem hl)]; rfl
      simp [s_law_feed_1, hl, ei]
    · refine ⟨61 * k + 17, ?_⟩
      simp [s_law_feed_1, hl, h61]
  obtain ⟨c, h54⟩ := h54
  obtain ⟨a, h55⟩ : ∃ a, s_law_feed_2 [.fz (.scr ns), .fz (.int k), .fz (.int c), .un, .un] = .ok .nx [.fz (.scr ns), .fz (.int k), .fz (.int c), .fz (.int a), .un] := ⟨_, by simp [s_law_feed_2, hpw]; rfl⟩
  obtain ⟨b, h56⟩ : ∃ b, s_law_feed_3 [.fz (.scr ns), .fz (.int k), .fz (.int c), .fz (.int a), .un] = .ok .nx [.fz (.scr ns), .fz (.int k), .fz (.int c), .fz (.int a), .fz (.int b)] := ⟨_, by simp [s_law_feed_3, opMul_i _ _ (big c), h79, opMod_i _ 2305843009213693951 (by decide)]; rfl⟩
  refine ⟨a, b, ?_⟩
  have h57 : s_law_feed_4 [.fz (.scr ns), .fz (.int k), .fz (.int c), .fz (.int a), .fz (.int b)] = .ok (.rt (.ow (feed a b))) [.fz (.scr ns), .fz (.int k), .fz (.int c), .fz (.int a), .fz (.int b)] := by
    simp [s_law_feed_4, sl2, feed]
  have : φ_law_feed [.fz (.scr ns), .fz (.int k), .un, .un, .un] = _ := (seq_nx h54).trans ((seq_nx h55).trans ((seq_nx h56).trans h57))
  simp [F_law_feed, runB, this, bosF]
end LW

namespace LW
open PySem DL
/-! ### records drawn -/
theorem names_run : F_law_names [] = .ok true (.lst (S5.map .str)) [] := by kernel_rfl
theorem sorted_run : fSorted [.lst (S5.map .str)] = some (.ow (.lst (S5.map .str))) := by kernel_rfl
theorem name_draw (a b : Int) : ∃ n ∈ S5, ∃ a' b', F_law_pick [.bo (feed a b), .fz (.lst (S5.map .str))] = .ok false (.str n) [feed a' b'] := by
  obtain ⟨x, a', b', hx, e⟩ := pick_run a b (S5.map .str) (by decide) (by decide)
  obtain ⟨n, hn, rfl⟩ := List.mem_map.mp hx
  exact ⟨n, hn, a', b', e⟩
theorem thing_draw (a b : Int) : ∃ t ∈ T6, ∃ a' b', F_law_thing [.bo (feed a b)] = .ok false t.1 [feed a' b'] := by
  obtain ⟨x, a', b', hx, e⟩ := pick_run a b (T6.map (·.1)) (by decide) (by decide)
  obtain ⟨t, ht, rfl⟩ := List.mem_map.mp hx
  refine ⟨t, ht, a', b', ?_⟩
  have t1 : s_law_thing_1 [.bo (feed a b), .un] = .ok .nx [.bo (feed a b), .ow (.lst (T6.map (·.1)))] := by rfl
  have t2 : s_law_thing_2 [.bo (feed a b), .ow (.lst (T6.map (·.1)))] = .ok (.rt (.fz t.1)) [.bo (feed a' b'), .fz (.lst (T6.map (·.1)))] := by
    generalize T6.map (·.1) = g at e ⊢
    simp [s_law_thing_2, e]
  have : φ_law_thing [.bo (feed a b), .un] = _ := (seq_nx t1).trans t2
  simp [F_law_thing, runB, this, bosF]
def bkR (n : Str) (i : Int) : Option Rc → Option D
  | some (.hd m _) => if m = n then some (.int (i + 1)) else none
  | _ => none
def bkF (pre : List Rc) (n : Str) : D → Option D
  | .int i => bkR n i pre[i.toNat]?
  | _ => none
theorem ix_rc {pre : List Rc} {i : Nat} {r : Rc} (h : pre[i]? = some r) : ixD (.lst (pre.map Rc.d)) (.int (i : Int)) = some (.fz r.d) := ix_nat (j := i) rfl (by rw [List.getElem?_map, h]; rfl)
theorem back_run {pre : List Rc} (v : VA [] pre) (hl : pre.length ≤ 12) (n : Str) : ∃ ds : List D, ds.length ≤ 12 ∧ (∀ d ∈ ds, ∃ j : Nat, d = .int ((j : Int) + 1) ∧ isHd pre n j ∧ j < pre.length) ∧
    F_law_back [.bo (.lst (pre.map Rc.d)), .fz (.int ((pre.length : Int) + 1)), .fz (.str n)] = .ok true (.lst ds) [.lst (pre.map Rc.d)] := by
  have mem : ∀ d ∈ rangeD 0 pre.length, ∃ j : Nat, d = .int (j : Int) ∧ j < pre.length := fun d hd => by
    unfold rangeD at hd
    obtain ⟨j, hj, rfl⟩ := List.mem_map.mp hd
    exact ⟨j, by rw [Int.zero_add], List.mem_range.mp hj⟩
  refine ⟨(rangeD 0 pre.length).filterMap (bkF pre n), ?_, fun d hd => ?_, ?_⟩
  · have a := List.length_filterMap_le (bkF pre n) (rangeD 0 pre.length)
    have b : (rangeD 0 pre.length).length = pre.length := by unfold rangeD; rw [List.length_map, List.length_range]
    omega
  · obtain ⟨x, hx, e⟩ := List.mem_filterMap.mp hd
    obtain ⟨j, rfl, hj⟩ := mem x hx
    unfold bkF bkR at e
    simp only [Int.toNat_natCast] at e
    split at e
    · rename_i m t hm
      split at e
      · rename_i hn
        cases e
        subst hn
        exact ⟨j, rfl, ⟨t, (VA.at_ v hm).2, hm⟩, hj⟩
      · cases e
    · cases e
  · have en : (pre.length : Int) + 1 - 1 = pre.length := by omega
    have hi : mIt range1 (mCons (mOp opSub (mVar 1) (mC (.int 1))) mNil) [.bo (.lst (pre.map Rc.d)), .fz (.int ((pre.length : Int) + 1)), .fz (.str n), .un] = .ok (rangeD 0 pre.length) [.bo (.lst (pre.map Rc.d)), .fz (.int ((pre.length : Int) + 1)), .fz (.str n), .un] := by
      have r := range1_run pre.length (by omega) [.bo (.lst (pre.map Rc.d)), .fz (.int ((pre.length : Int) + 1)), .fz (.str n), .un]
      generalize pre.map Rc.d = g at r ⊢
      have ea : mCons (mOp opSub (mVar 1) (mC (.int 1))) mNil [.bo (.lst g), .fz (.int ((pre.length : Int) + 1)), .fz (.str n), .un] = .ok [.fz (.int (pre.length : Int))] [.bo (.lst g), .fz (.int ((pre.length : Int) + 1)), .fz (.str n), .un] := by simp [en]
      show ((mCons _ _).bnd fun avs => (rdAll avs).bnd range1) _ = _
      rw [bnd_ok ea]
      have er : rdAll [.fz (.int (pre.length : Int))] [.bo (.lst g), .fz (.int ((pre.length : Int) + 1)), .fz (.str n), .un] = .ok [.int (pre.length : Int)] [.bo (.lst g), .fz (.int ((pre.length : Int) + 1)), .fz (.str n), .un] := by simp
      rw [bnd_ok er]
      exact r
    have key := comp_run (φ := mOp opAdd (mVar 3) (mC (.int 1))) (τ := mAnd (mTest (mOp opEq (mOp ixD (mOp ixD (mVar 0) (mVar 3)) (mC (.int 0))) (mC (.str "head")))) (mTest (mOp opEq (mOp ixD (mOp ixD (mVar 0) (mVar 3)) (mC (.int 1))) (mVar 2)))) hi (i := 3) (s := .un) rfl rfl (bkF pre n) (fun d hd => by
      obtain ⟨j, rfl, hj⟩ := mem d hd
      obtain ⟨r, hr⟩ : ∃ r, pre[j]? = some r := ⟨_, List.getElem?_eq_getElem hj⟩
      have e1 := ix_rc hr
      have eb : bkF pre n (.int (j : Int)) = bkR n j (some r) := by
        unfold bkF
        simp only [Int.toNat_natCast, hr]
      rw [eb]
      generalize pre.map Rc.d = g at e1 ⊢
      cases r with
      | hd m t =>
        by_cases hm : m = n
        · subst hm
          simp [e1, Rc.d, bkR]
        · have hm2 : (m == n) = false := by simpa using hm
          simp [e1, Rc.d, bkR, hm, hm2]
      | st m => simp (decide := true) [e1, Rc.d, bkR]
      | ls its => simp (decide := true) [e1, Rc.d, bkR]) (by unfold rangeD; rw [List.length_map, List.length_range]; omega)
    generalize (rangeD 0 pre.length).filterMap (bkF pre n) = q at key ⊢
    generalize pre.map Rc.d = g at key ⊢
    show runB 4 φ_law_back _ = _
    have : φ_law_back [.bo (.lst g), .fz (.int ((pre.length : Int) + 1)), .fz (.str n), .un] = .ok (.rt (.ow (.lst q))) [.bo (.lst g), .fz (.int ((pre.length : Int) + 1)), .fz (.str n), .un] := by
      show s_law_back_1 _ = _
      unfold s_law_back_1
      rw [mRet_app, bnd_ok key]
      rfl
    simp [runB, this, bosF]
end LW

namespace LW
open PySem DL
def ItOk (pre : List Rc) (q : Str × Nat) : Prop := q.1 ∈ S5 ∧ (∃ j, isHd pre q.1 j) ∧ (q.2 = 0 ∨ (q.2 ≤ pre.length ∧ isHd pre q.1 (pre.length - q.2)))
theorem sl_last {l : List D} : slD (.lst l) (some (-1)) none = some (.ow (.lst (l.drop (l.length - 1)))) := by
  show some (AV.ow (.lst ((l.drop (HT.sIx l.length 0 (some (-1)))).take (HT.sIx l.length l.length none - HT.sIx l.length 0 (some (-1)))))) = _
  have e1 : HT.sIx l.length 0 (some (-1)) = l.length - 1 := by
    show (if (-1 : Int) < 0 then ((-1 : Int) + (l.length : Int)).toNat else min ((-1 : Int)).toNat l.length) = _
    rw [if_pos (by decide)]
    omega
  have e2 : HT.sIx l.length l.length none = l.length := rfl
  rw [e1, e2, List.take_of_length_le (by rw [List.length_drop]; exact Nat.le_refl _)]
theorem ne_nil {ds : List D} : opNeX (.lst ds) (.lst []) = some (.fz (.bl (!ds.isEmpty))) := by
  cases ds with
  | nil => rfl
  | cons d ds => rfl
theorem item_turn {pre : List Rc} (v : VA [] pre) (hl : pre.length ≤ 12) {n : Str} (hn : n ∈ S5) (its : List (Str × Nat)) (hi : its.length ≤ 12) (a b : Int) {x4 x5 : Sl} (h4 : isBo x4 = false) (h5 : isBo x5 = false) :
    ∃ more : List (Str × Nat), (more = [] ∨ ∃ k, more = [(n, k)]) ∧ (∀ q ∈ more, ItOk pre q) ∧ ∃ a' b' y5, isBo y5 = false ∧ ∃ ρ1, bindT (.nm 4) (.str n) [.bo (feed a b), .bo (.lst (pre.map Rc.d)), .fz (.int ((pre.length : Int) + 1)), .ow (.lst (its.map itD)), x4, x5, .un] = .ok () ρ1 ∧
      mSeq s_law_items_3 s_law_items_4 ρ1 = .ok .nx [.bo (feed a' b'), .bo (.lst (pre.map Rc.d)), .fz (.int ((pre.length : Int) + 1)), .ow (.lst ((its ++ more).map itD)), .fz (.str n), y5, .un] := by
  obtain ⟨ds, dl, dm, eb⟩ := back_run v hl n
  have hz : (its.map itD).length < sizeLine := by have := sl_small 1000 (by omega); rw [List.length_map]; omega
  have b1 : bindT (.nm 4) (.str n) [.bo (feed a b), .bo (.lst (pre.map Rc.d)), .fz (.int ((pre.length : Int) + 1)), .ow (.lst (its.map itD)), x4, x5, .un] = .ok () [.bo (feed a b), .bo (.lst (pre.map Rc.d)), .fz (.int ((pre.length : Int) + 1)), .ow (.lst (its.map itD)), .fz (.str n), x5, .un] := by simp [h4]
  have t3 : s_law_items_3 [.bo (feed a b), .bo (.lst (pre.map Rc.d)), .fz (.int ((pre.length : Int) + 1)), .ow (.lst (its.map itD)), .fz (.str n), x5, .un] = .ok .nx [.bo (feed a b), .bo (.lst (pre.map Rc.d)), .fz (.int ((pre.length : Int) + 1)), .ow (.lst (its.map itD)), .fz (.str n), .ow (.lst ds), .un] := by
    generalize pre.map Rc.d = g at eb ⊢
    simp [s_law_items_3, eb, h5]
  by_cases h0 : ds = []
  · subst h0
    refine ⟨[], .inl rfl, fun q hq => absurd hq List.not_mem_nil, a, b, .ow (.lst []), rfl, _, b1, ?_⟩
    rw [seq_nx t3, List.append_nil]
    simp [s_law_items_4, ne_nil]
  · obtain ⟨d0, r0, rfl⟩ : ∃ d r, ds = d :: r := by
      cases ds with
      | nil => exact absurd rfl h0
      | cons d r => exact ⟨d, r, rfl⟩
    have he : ∃ j, isHd pre n j := by
      obtain ⟨j, _, h, _⟩ := dm d0 List.mem_cons_self
      exact ⟨j, h⟩
    obtain ⟨r, a1, b1', q0, q1, et⟩ := take_run a b 3 (by omega) (by omega)
    by_cases hr : 0 < r
    · have mem2 : ∀ d ∈ (d0 :: r0) ++ (d0 :: r0).drop ((d0 :: r0).length - 1), ∃ j : Nat, d = .int ((j : Int) + 1) ∧ isHd pre n j ∧ j < pre.length := fun d hd => by
        rcases List.mem_append.mp hd with h | h
        · exact dm d h
        · exact dm d (List.mem_of_mem_drop h)
      have len2 : ((d0 :: r0) ++ (d0 :: r0).drop ((d0 :: r0).length - 1)).length ≤ 24 := by
        rw [List.length_append, List.length_drop]; omega
      have sl := sl_last (l := d0 :: r0)
      have ad := add_l (a := d0 :: r0) (c := (d0 :: r0).drop ((d0 :: r0).length - 1)) (by rw [List.length_drop]; omega)
      generalize (d0 :: r0).drop ((d0 :: r0).length - 1) = dr at mem2 len2 sl ad
      have ne : opNeX (.lst (d0 :: r0)) (.lst []) = some (.fz (.bl true)) := ne_nil
      generalize hds : d0 :: r0 = dd at *
      have fm : ∀ d ∈ dd ++ dr, ∃ k : Nat, k ≤ pre.length ∧ isHd pre n (pre.length - k) ∧ opSub (.int ((pre.length : Int) + 1)) d = some (.fz (.int (k : Int))) := fun d hd => by
        obtain ⟨j, rfl, hj, hj2⟩ := mem2 d hd
        refine ⟨pre.length - j, by omega, ?_, ?_⟩
        · rw [show pre.length - (pre.length - j) = j by omega]; exact hj
        · show some (AV.fz (.int ((pre.length : Int) + 1 - ((j : Int) + 1)))) = _
          rw [show (pre.length : Int) + 1 - ((j : Int) + 1) = ((pre.length - j : Nat) : Int) by omega]
      obtain ⟨f, ff⟩ : ∃ f : D → D, ∀ d ∈ dd ++ dr, opSub (.int ((pre.length : Int) + 1)) d = some (.fz (f d)) := ⟨fun d => match opSub (.int ((pre.length : Int) + 1)) d with
        | some (.fz x) => x
        | _ => .non, fun d hd => by
        obtain ⟨k, _, _, e⟩ := fm d hd
        show _ = some (AV.fz (match opSub (.int ((pre.length : Int) + 1)) d with
          | some (.fz x) => x
          | _ => .non))
        rw [e]⟩
      have hlst : ((.int 0 : D) :: (dd ++ dr).map f) ≠ [] := by simp
      obtain ⟨x, a', b', hx, ep⟩ := pick_run a1 b1' (.int 0 :: (dd ++ dr).map f) hlst (by rw [List.length_cons, List.length_map]; omega)
      have hk : ∃ k : Nat, x = .int (k : Int) ∧ (k = 0 ∨ (k ≤ pre.length ∧ isHd pre n (pre.length - k))) := by
        rcases List.mem_cons.mp hx with h | h
        · exact ⟨0, h, .inl rfl⟩
        · obtain ⟨d, hd, rfl⟩ := List.mem_map.mp h
          obtain ⟨k, h1, h2, e⟩ := fm d hd
          have e2 := ff d hd
          rw [e] at e2
          have e3 : D.int (k : Int) = f d := by injection e2 with e2; injection e2
          exact ⟨k, e3.symm, .inr ⟨h1, h2⟩⟩
      obtain ⟨k, rfl, hk⟩ := hk
      refine ⟨[(n, k)], .inr ⟨k, rfl⟩, fun q hq => ?_, a', b', .fz (.lst dd), rfl, _, b1, ?_⟩
      · rw [List.mem_singleton] at hq
        subst hq
        exact ⟨hn, he, hk⟩
      · rw [seq_nx t3]
        have ad2 := add_l (a := [.int 0]) (c := (dd ++ dr).map f) (by rw [List.length_map]; show 1 + _ ≤ _; omega)
        have emore : (its ++ [(n, k)]).map itD = its.map itD ++ [.tup [.str n, .int (k : Int)]] := by rw [List.map_append]; rfl
        rw [emore]
        generalize its.map itD = I at hz ⊢
        generalize pre.map Rc.d = g at *
        generalize (pre.length : Int) + 1 = N at *
        have ci : mItems (mOp opAdd (mVar 5) (mSl (mVar 5) (some (mUn unNeg (mC (.int 1)))) none)) [.bo (feed a1 b1'), .bo (.lst g), .fz (.int N), .ow (.lst I), .fz (.str n), .ow (.lst dd), .un] = .ok (dd ++ dr) [.bo (feed a1 b1'), .bo (.lst g), .fz (.int N), .ow (.lst I), .fz (.str n), .fz (.lst dd), .un] := by simp [sl, ad]
        have cm := comp_map (φ := mOp opSub (mVar 2) (mVar 6)) ci (i := 6) (s := .un) rfl rfl f (fun d hd => by
          have e := ff d hd
          refine ⟨.fz (f d), ?_, rfl⟩
          simp [e]) (by omega)
        have t4 : mTest (mOp opGt (mCallF 2 F_law_take (mRc .keep (mVar 0) (mRc .fz (mC (.int 3)) mNil))) (mC (.int 0))) [.bo (feed a b), .bo (.lst g), .fz (.int N), .ow (.lst I), .fz (.str n), .ow (.lst dd), .un] = .ok true [.bo (feed a1 b1'), .bo (.lst g), .fz (.int N), .ow (.lst I), .fz (.str n), .ow (.lst dd), .un] := by
          simp [et, hr]
        have t5 : s_law_items_5 [.bo (feed a1 b1'), .bo (.lst g), .fz (.int N), .ow (.lst I), .fz (.str n), .ow (.lst dd), .un] = .ok .nx [.bo (feed a' b'), .bo (.lst g), .fz (.int N), .ow (.lst (I ++ [.tup [.str n, .int (k : Int)]])), .fz (.str n), .fz (.lst dd), .un] := by
          generalize hL : (dd ++ dr).map f = L at cm ep ad2
          have cm' : mComp (mItems (mOp opAdd (mVar 5) (mSl (mVar 5) (some (mUn unNeg (mC (.int 1)))) none))) [6] (.nm 6) (M.ret true) (mOp opSub (mVar 2) (mVar 6)) [.bo (feed a1 b1'), .bo (.lst g), .fz (.int N), .ow (.lst I), .fz (.str n), .ow (.lst dd), .un] = .ok (.ow (.lst L)) [.bo (feed a1 b1'), .bo (.lst g), .fz (.int N), .ow (.lst I), .fz (.str n), .fz (.lst dd), .un] := cm
          unfold s_law_items_5
          generalize mComp (mItems (mOp opAdd (mVar 5) (mSl (mVar 5) (some (mUn unNeg (mC (.int 1)))) none))) [6] (.nm 6) (M.ret true) (mOp opSub (mVar 2) (mVar 6)) = cmp at cm' ⊢
          have sl1 : (1 : Nat) ≤ sizeLine := sl_small 1 (by omega)
          have ad3 : opAdd (.lst [.int 0]) (.lst L) = some (.ow (.lst (.int 0 :: L))) := ad2
          simp [cm', ep, ad3, sl1, sl2, hz]
        unfold s_law_items_4
        have tt : mAnd (mTest (mOp opNeX (mVar 5) (mLst mNil))) (mTest (mOp opGt (mCallF 2 F_law_take (mRc .keep (mVar 0) (mRc .fz (mC (.int 3)) mNil))) (mC (.int 0)))) [.bo (feed a b), .bo (.lst g), .fz (.int N), .ow (.lst I), .fz (.str n), .ow (.lst dd), .un] = .ok true [.bo (feed a1 b1'), .bo (.lst g), .fz (.int N), .ow (.lst I), .fz (.str n), .ow (.lst dd), .un] := by
          simp [ne, et, hr]
        rw [if_t tt]
        exact t5
    · have ne : opNeX (.lst (d0 :: r0)) (.lst []) = some (.fz (.bl true)) := ne_nil
      refine ⟨[], .inl rfl, fun q hq => absurd hq List.not_mem_nil, a1, b1', .ow (.lst (d0 :: r0)), rfl, _, b1, ?_⟩
      rw [seq_nx t3, List.append_nil]
      generalize pre.map Rc.d = g at *
      generalize (d0 :: r0) = dd at *
      generalize its.map itD = I at *
      simp [s_law_items_4, ne, et, hr]
end LW

namespace LW
open PySem DL
theorem range_run {φ : M (List AV)} {ρ ρ' : DL.Env} {avs : List AV} {m : Nat} (ea : φ ρ = .ok avs ρ') (er : rdAll avs ρ' = .ok [.int (m : Int)] ρ') (h : m ≤ 1000) : mIt range1 φ ρ = .ok (rangeD 0 m) ρ' := by
  unfold mIt
  rw [bnd_ok ea, bnd_ok er]
  exact range1_run m (by omega) ρ'
theorem items_loop {pre : List Rc} (v : VA [] pre) (hl : pre.length ≤ 12) : ∀ (ns : List Str) (its : List (Str × Nat)) (a b : Int) (x4 x5 : Sl), (∀ n ∈ ns, n ∈ S5) → its.length + ns.length ≤ 12 → isBo x4 = false → isBo x5 = false →
    ∃ more : List (Str × Nat), (more.map (·.1)).Sublist ns ∧ (∀ q ∈ more, ItOk pre q) ∧ ∃ a' b' y4 y5, loopF (.nm 4) (mSeq s_law_items_3 s_law_items_4) (ns.map .str) [.bo (feed a b), .bo (.lst (pre.map Rc.d)), .fz (.int ((pre.length : Int) + 1)), .ow (.lst (its.map itD)), x4, x5, .un] = .ok .nx [.bo (feed a' b'), .bo (.lst (pre.map Rc.d)), .fz (.int ((pre.length : Int) + 1)), .ow (.lst ((its ++ more).map itD)), y4, y5, .un]
  | [], its, a, b, x4, x5, _, _, h4, h5 => ⟨[], List.Sublist.slnil, fun q hq => absurd hq List.not_mem_nil, a, b, x4, x5, by rw [List.append_nil]; rfl⟩
  | n :: ns, its, a, b, x4, x5, hn, hi, h4, h5 => by
    rw [List.length_cons] at hi
    obtain ⟨m1, s1, o1, a1, b1, y5, hy5, ρ1, c1, c2⟩ := item_turn v hl (hn n List.mem_cons_self) its (by omega) a b h4 h5
    have hl1 : m1.length ≤ 1 := by rcases s1 with rfl | ⟨k, rfl⟩ <;> simp
    obtain ⟨m2, s2, o2, a2, b2, z4, z5, e⟩ := items_loop v hl ns (its ++ m1) a1 b1 (.fz (.str n)) y5 (fun x hx => hn x (List.mem_cons_of_mem _ hx)) (by rw [List.length_append]; omega) rfl hy5
    refine ⟨m1 ++ m2, ?_, fun q hq => ?_, a2, b2, z4, z5, ?_⟩
    · rcases s1 with rfl | ⟨k, rfl⟩
      · exact s2.cons n
      · exact s2.cons₂ n
    · rcases List.mem_append.mp hq with h | h
      · exact o1 q h
      · exact o2 q h
    · rw [List.map_cons, loop_cons c1 (.inl c2), e, List.append_assoc]
theorem items_draw {pre : List Rc} (v : VA [] pre) (hl : pre.length ≤ 12) (a b : Int) : ∃ its, VR pre (.ls its) ∧ ∃ a' b', F_law_items [.bo (feed a b), .bo (.lst (pre.map Rc.d))] = .ok false (.tup (its.map itD)) [feed a' b', .lst (pre.map Rc.d)] := by
  obtain ⟨its, sb, ok, a', b', y4, y5, e⟩ := items_loop v hl S5 [] a b .un .un (fun n h => h) (by decide) rfl rfl
  have hlen : its.length ≤ 5 := by
    have z := sb.length_le
    rw [List.length_map] at z
    exact z
  have gl : (pre.map Rc.d).length = pre.length := List.length_map _
  have tl1 : (its.map itD).length ≤ 5 := by rw [List.length_map]; exact hlen
  refine ⟨its, ⟨hlen, List.Pairwise.sublist sb (by decide +kernel), fun q hq => ok q hq⟩, a', b', ?_⟩
  rw [List.nil_append] at e
  generalize pre.map Rc.d = g at *
  generalize its.map itD = I at *
  have ln : fLen [.lst g] = some (.fz (.int pre.length)) := by
    show some (AV.fz (.int g.length)) = _
    rw [gl]
  have t1 : s_law_items_1 [.bo (feed a b), .bo (.lst g), .un, .un, .un, .un, .un] = .ok .nx [.bo (feed a b), .bo (.lst g), .fz (.int ((pre.length : Int) + 1)), .ow (.lst []), .un, .un, .un] := by
    simp [s_law_items_1, ln]
  have hi : mItems (mCall fSorted (mCons (mFn 0 F_law_names []) mNil)) [.bo (feed a b), .bo (.lst g), .fz (.int ((pre.length : Int) + 1)), .ow (.lst []), .un, .un, .un] = .ok (S5.map .str) [.bo (feed a b), .bo (.lst g), .fz (.int ((pre.length : Int) + 1)), .ow (.lst []), .un, .un, .un] := by
    have nr := names_run
    have sr := sorted_run
    generalize S5.map D.str = S at nr sr ⊢
    simp [nr, sr]
  have t2 : s_law_items_2 [.bo (feed a b), .bo (.lst g), .fz (.int ((pre.length : Int) + 1)), .ow (.lst []), .un, .un, .un] = .ok .nx [.bo (feed a' b'), .bo (.lst g), .fz (.int ((pre.length : Int) + 1)), .ow (.lst I), y4, y5, .un] := by
    unfold s_law_items_2
    rw [for_run hi]
    exact e
  have tp : fTuple [.lst I] = some (.fz (.tup I)) := rfl
  have t6 : s_law_items_6 [.bo (feed a' b'), .bo (.lst g), .fz (.int ((pre.length : Int) + 1)), .ow (.lst I), y4, y5, .un] = .ok (.rt (.fz (.tup I))) [.bo (feed a' b'), .bo (.lst g), .fz (.int ((pre.length : Int) + 1)), .ow (.lst I), y4, y5, .un] := by
    simp [s_law_items_6, tp]
  have : φ_law_items [.bo (feed a b), .bo (.lst g), .un, .un, .un, .un, .un] = _ := (seq_nx t1).trans ((seq_nx t2).trans t6)
  simp [F_law_items, runB, this, bosF]
theorem record_draw {pre : List Rc} (v : VA [] pre) (hl : pre.length ≤ 12) (a b : Int) : ∃ r, VR pre r ∧ ∃ a' b', F_law_record [.bo (feed a b), .bo (.lst (pre.map Rc.d))] = .ok false r.d [feed a' b', .lst (pre.map Rc.d)] := by
  obtain ⟨k, a1, b1, k0, k1, e1⟩ := take_run a b 7 (by omega) (by omega)
  obtain ⟨n, hn, a2, b2, e2⟩ := name_draw a1 b1
  have s3 : (3 : Nat) ≤ sizeLine := sl_small 3 (by omega)
  have t1 : ∀ g : D, s_law_record_1 [.bo (feed a b), .bo g, .un, .un] = .ok .nx [.bo (feed a2 b2), .bo g, .fz (.int k), .fz (.str n)] := fun g => by
    have nr := names_run
    generalize S5.map D.str = S at nr e2
    simp [s_law_record_1, e1, e2, nr]
  by_cases h3 : k < 3
  · obtain ⟨t, ht, a3, b3, e3⟩ := thing_draw a2 b2
    refine ⟨.hd n t, ⟨hn, ht⟩, a3, b3, ?_⟩
    generalize pre.map Rc.d = g at *
    have t2 : s_law_record_2 [.bo (feed a2 b2), .bo (.lst g), .fz (.int k), .fz (.str n)] = .ok (.rt (.fz (.tup [.str "head", .str n, t.1]))) [.bo (feed a3 b3), .bo (.lst g), .fz (.int k), .fz (.str n)] := by
      simp [s_law_record_2, s_law_record_3, h3, e3, s3]
    have : φ_law_record [.bo (feed a b), .bo (.lst g), .un, .un] = _ := (seq_nx (t1 _)).trans (seq_rt t2)
    simp [F_law_record, runB, this, bosF, Rc.d]
  · by_cases h4 : k = 3
    · refine ⟨.st n, hn, a2, b2, ?_⟩
      generalize pre.map Rc.d = g at *
      have t2 : s_law_record_2 [.bo (feed a2 b2), .bo (.lst g), .fz (.int k), .fz (.str n)] = .ok .nx [.bo (feed a2 b2), .bo (.lst g), .fz (.int k), .fz (.str n)] := by
        simp [s_law_record_2, h3]
      have t4 : s_law_record_4 [.bo (feed a2 b2), .bo (.lst g), .fz (.int k), .fz (.str n)] = .ok (.rt (.fz (.tup [.str "strike", .str n]))) [.bo (feed a2 b2), .bo (.lst g), .fz (.int k), .fz (.str n)] := by
        simp [s_law_record_4, h4, sl2]
      have : φ_law_record [.bo (feed a b), .bo (.lst g), .un, .un] = _ := (seq_nx (t1 _)).trans ((seq_nx t2).trans t4)
      simp [F_law_record, runB, this, bosF, Rc.d]
    · obtain ⟨its, vi, a3, b3, e3⟩ := items_draw v hl a2 b2
      refine ⟨.ls its, vi, a3, b3, ?_⟩
      have hd : (Rc.ls its).d = .tup [.str "list", .tup (its.map itD)] := rfl
      rw [hd]
      generalize its.map itD = I at *
      generalize pre.map Rc.d = g at *
      have t2 : s_law_record_2 [.bo (feed a2 b2), .bo (.lst g), .fz (.int k), .fz (.str n)] = .ok .nx [.bo (feed a2 b2), .bo (.lst g), .fz (.int k), .fz (.str n)] := by
        simp [s_law_record_2, h3]
      have t4 : s_law_record_4 [.bo (feed a2 b2), .bo (.lst g), .fz (.int k), .fz (.str n)] = .ok (.rt (.fz (.tup [.str "list", .tup I]))) [.bo (feed a3 b3), .bo (.lst g), .fz (.int k), .fz (.str n)] := by
        simp [s_law_record_4, h4, sl2, e3]
      have : φ_law_record [.bo (feed a b), .bo (.lst g), .un, .un] = _ := (seq_nx (t1 _)).trans ((seq_nx t2).trans t4)
      simp [F_law_record, runB, this, bosF]
theorem records_loop : ∀ (ds : List D) (rs : List Rc) (a b N : Int) (x3 : Sl), VA [] rs → rs.length + ds.length ≤ 12 → isBo x3 = false →
    ∃ ss, VA [] (rs ++ ss) ∧ ss.length = ds.length ∧ ∃ a' b' y3, loopF (.nm 3) s_law_records_3 ds [.bo (feed a b), .fz (.int N), .ow (.lst (rs.map Rc.d)), x3] = .ok .nx [.bo (feed a' b'), .fz (.int N), .ow (.lst ((rs ++ ss).map Rc.d)), y3]
  | [], rs, a, b, N, x3, v, _, h3 => ⟨[], by rw [List.append_nil]; exact v, rfl, a, b, x3, by rw [List.append_nil]; rfl⟩
  | d :: ds, rs, a, b, N, x3, v, hl, h3 => by
    rw [List.length_cons] at hl
    obtain ⟨r, hr, a1, b1, e1⟩ := record_draw v (by omega) a b
    have v2 : VA [] (rs ++ [r]) := VA.app.mpr ⟨v, hr, trivial⟩
    obtain ⟨ss, hs, hs2, a2, b2, y3, e⟩ := records_loop ds (rs ++ [r]) a1 b1 N (.fz d) v2 (by rw [List.length_append, List.length_singleton]; omega) rfl
    refine ⟨r :: ss, by rw [List.append_assoc] at hs; exact hs, by rw [List.length_cons, List.length_cons, hs2], a2, b2, y3, ?_⟩
    have hz : (rs.map Rc.d).length < sizeLine := by have := sl_small 1000 (by omega); rw [List.length_map]; omega
    have b0 : bindT (.nm 3) d [.bo (feed a b), .fz (.int N), .ow (.lst (rs.map Rc.d)), x3] = .ok () [.bo (feed a b), .fz (.int N), .ow (.lst (rs.map Rc.d)), .fz d] := by simp [h3]
    have em : (rs ++ [r]).map Rc.d = rs.map Rc.d ++ [r.d] := by rw [List.map_append]; rfl
    have c : s_law_records_3 [.bo (feed a b), .fz (.int N), .ow (.lst (rs.map Rc.d)), .fz d] = .ok .nx [.bo (feed a1 b1), .fz (.int N), .ow (.lst ((rs ++ [r]).map Rc.d)), .fz d] := by
      rw [em]
      generalize rs.map Rc.d = g at *
      simp [s_law_records_3, e1, hz]
    rw [loop_cons b0 (.inl c), e, List.append_assoc]
    rfl
end LW

namespace LW
open PySem DL
theorem recs_it (a b : Int) (m : Nat) (hm : m ≤ 12) : mIt range1 (mCons (mVar 1) mNil) [.bo (feed a b), .fz (.int (m : Int)), .ow (.lst []), .un] = .ok (rangeD 0 m) [.bo (feed a b), .fz (.int (m : Int)), .ow (.lst []), .un] := by
  have ea : mCons (mVar 1) mNil [.bo (feed a b), .fz (.int (m : Int)), .ow (.lst []), .un] = .ok [.sl 1] [.bo (feed a b), .fz (.int (m : Int)), .ow (.lst []), .un] := by simp
  have er : rdAll [.sl 1] [.bo (feed a b), .fz (.int (m : Int)), .ow (.lst []), .un] = .ok [.int (m : Int)] [.bo (feed a b), .fz (.int (m : Int)), .ow (.lst []), .un] := by simp
  exact range_run ea er (by omega)
theorem recs_end {a b a' b' N : Int} {z g : List D} {y3 : Sl} (hi : mIt range1 (mCons (mVar 1) mNil) [.bo (feed a b), .fz (.int N), .ow (.lst []), .un] = .ok z [.bo (feed a b), .fz (.int N), .ow (.lst []), .un])
    (e : loopF (.nm 3) s_law_records_3 z [.bo (feed a b), .fz (.int N), .ow (.lst []), .un] = .ok .nx [.bo (feed a' b'), .fz (.int N), .ow (.lst g), y3]) : F_law_records [.bo (feed a b), .fz (.int N)] = .ok true (.lst g) [feed a' b'] := by
  have t1 : s_law_records_1 [.bo (feed a b), .fz (.int N), .un, .un] = .ok .nx [.bo (feed a b), .fz (.int N), .ow (.lst []), .un] := by simp [s_law_records_1]
  have t2 : s_law_records_2 [.bo (feed a b), .fz (.int N), .ow (.lst []), .un] = .ok .nx [.bo (feed a' b'), .fz (.int N), .ow (.lst g), y3] := by
    unfold s_law_records_2
    rw [for_run hi]
    exact e
  have t4 : s_law_records_4 [.bo (feed a' b'), .fz (.int N), .ow (.lst g), y3] = .ok (.rt (.sl 2)) [.bo (feed a' b'), .fz (.int N), .ow (.lst g), y3] := by simp [s_law_records_4]
  have : φ_law_records [.bo (feed a b), .fz (.int N), .un, .un] = .ok (.rt (.sl 2)) [.bo (feed a' b'), .fz (.int N), .ow (.lst g), y3] := by
    unfold φ_law_records
    rw [seq_nx t1, seq_nx t2]
    exact t4
  simp [F_law_records, runB, this, bosF]
theorem records_draw (a b : Int) (m : Nat) (hm : m ≤ 12) : ∃ rs, VA [] rs ∧ rs.length = m ∧ ∃ a' b', F_law_records [.bo (feed a b), .fz (.int (m : Int))] = .ok true (.lst (rs.map Rc.d)) [feed a' b'] := by
  have rl : (rangeD 0 m).length = m := by unfold rangeD; rw [List.length_map, List.length_range]
  obtain ⟨rs, v, l, a', b', y3, e⟩ := records_loop (rangeD 0 m) [] a b (m : Int) .un trivial (by rw [rl, List.length_nil]; omega) rfl
  refine ⟨rs, v, by rw [l, rl], a', b', ?_⟩
  rw [List.nil_append] at e
  exact recs_end (recs_it a b m hm) e
end LW

namespace LW
open PySem DL
/-! ### equal archives, ends -/
theorem eqL_self {n : Nat} : ∀ {l : List D}, (∀ d ∈ l, eqD d n d = some true) → eqL l n l = some true
  | [], _ => by unfold eqL; rfl
  | d :: l, h => by
    unfold eqL
    rw [h d List.mem_cons_self, eqL_self fun x hx => h x (List.mem_cons_of_mem _ hx)]
    rfl
theorem eq_str (x : Str) (n : Nat) : eqD (.str x) n (.str x) = some true := by
  unfold eqD
  simp [fl, L2.eqV]
theorem eq_int (x : Int) (n : Nat) : eqD (.int x) n (.int x) = some true := by
  unfold eqD
  simp [fl, L2.eqV]
theorem eq_tup {l : List D} {n : Nat} (h : ∀ d ∈ l, eqD d n d = some true) : eqD (.tup l) (n + 1) (.tup l) = some true := by
  unfold eqD
  simp [eqL_self h]
theorem eq_lst {l : List D} {n : Nat} (h : ∀ d ∈ l, eqD d n d = some true) : eqD (.lst l) (n + 1) (.lst l) = some true := by
  unfold eqD
  simp [eqL_self h]
theorem eq_thing : ∀ t ∈ T6, ∀ n, eqD t.1 (n + 1) t.1 = some true := fun t ht n => by
  have isT : ∃ l : List Str, t.1 = .tup (l.map .str) := (of6 (p := fun t => ∃ l : List Str, t.1 = D.tup (l.map .str)) ⟨["folder"], rfl⟩ ⟨["file", ""], rfl⟩ ⟨["file", "text"], rfl⟩ ⟨["link", "b"], rfl⟩ ⟨["link", "d/e"], rfl⟩ ⟨["file", "a;b:c^,d"], rfl⟩) t ht
  obtain ⟨l, el⟩ := isT
  rw [el]
  refine eq_tup fun d hd => ?_
  obtain ⟨x, _, rfl⟩ := List.mem_map.mp hd
  exact eq_str x n
theorem eq_rc {pre : List Rc} {r : Rc} (v : VR pre r) (n : Nat) : eqD r.d (n + 3) r.d = some true := by
  cases r with
  | hd m t =>
    refine eq_tup fun d hd => ?_
    simp only [List.mem_cons, List.not_mem_nil, or_false] at hd
    rcases hd with rfl | rfl | rfl
    · exact eq_str _ _
    · exact eq_str _ _
    · exact eq_thing t v.2 _
  | st m =>
    refine eq_tup fun d hd => ?_
    simp only [List.mem_cons, List.not_mem_nil, or_false] at hd
    rcases hd with rfl | rfl
    · exact eq_str _ _
    · exact eq_str _ _
  | ls its =>
    refine eq_tup fun d hd => ?_
    simp only [List.mem_cons, List.not_mem_nil, or_false] at hd
    rcases hd with rfl | rfl
    · exact eq_str _ _
    · refine eq_tup fun d hd => ?_
      obtain ⟨q, _, rfl⟩ := List.mem_map.mp hd
      refine eq_tup fun d hd => ?_
      simp only [List.mem_cons, List.not_mem_nil, or_false] at hd
      rcases hd with rfl | rfl
      · exact eq_str _ _
      · exact eq_int _ _
theorem eq_rcs {rs : List Rc} (v : VA [] rs) : opEq (.lst (rs.map Rc.d)) (.lst (rs.map Rc.d)) = some (.fz (.bl true)) := by
  have : eqD (.lst (rs.map Rc.d)) 40 (.lst (rs.map Rc.d)) = some true := by
    refine eq_lst fun d hd => ?_
    obtain ⟨r, hr, rfl⟩ := List.mem_map.mp hd
    obtain ⟨i, hi⟩ := List.mem_iff_getElem?.mp hr
    exact eq_rc (VA.at_ v hi) 36
  unfold opEq
  rw [this]
  rfl
theorem arc_eq {rs : List Rc} (v : VA [] rs) (K K' : List (D × D)) : F_Archive_eq [.fz (arc (rs.map Rc.d) K), .fz (arc (rs.map Rc.d) K')] = .ok false (.bl true) [] := by
  have e := eq_rcs v
  have f1 := fld_kept (rs.map Rc.d) K
  have f2 := fld_kept (rs.map Rc.d) K'
  have i2 : isiC own_Archive (arc (rs.map Rc.d) K') = some true := by rfl
  generalize hA : arc (rs.map Rc.d) K = A at *
  generalize hB : arc (rs.map Rc.d) K' = B at *
  generalize rs.map Rc.d = g at *
  have : φ_Archive_eq [.fz A, .fz B] = .ok (.rt (.fz (.bl true))) [.fz A, .fz B] := by
    show s_Archive_eq_1 _ = _
    simp [s_Archive_eq_1, e, f1, f2, i2, mIsi, mAndV]
  simp [F_Archive_eq, runB, this, bosF]
/-- ends -/
def E (rs : List Rc) : List D := (List.range (rs.length + 1)).map fun j => .int ((txt (rs.take j)).length : Int)
theorem cnt (k : Nat) : ∀ n, ((List.range n).filter fun j => decide (j ≤ k)).length = min n (k + 1)
  | 0 => by simp
  | n + 1 => by
    rw [List.range_succ, List.filter_append, List.length_append, cnt k n]
    by_cases h : n ≤ k
    · simp [h]; omega
    · simp [h]; omega
def le1 (m : Nat) : D → Option D
  | .int i => if i ≤ (m : Int) then some (.int i) else none
  | _ => none
theorem cnt_E {rs : List Rc} {m k : Nat} (hk : k ≤ rs.length) (h : ∀ j, j ≤ rs.length → ((txt (rs.take j)).length ≤ m ↔ j ≤ k)) : ((E rs).filterMap (le1 m)).length = k + 1 := by
  have gen : ∀ l : List Nat, (∀ j ∈ l, j ≤ rs.length) → ((l.map fun j => D.int ((txt (rs.take j)).length : Int)).filterMap (le1 m)).length = (l.filter fun j => decide (j ≤ k)).length := fun l => by
    induction l with
    | nil => intro _; rfl
    | cons j l ih =>
      intro hl
      have ih := ih fun x hx => hl x (List.mem_cons_of_mem _ hx)
      have hj := h j (hl j List.mem_cons_self)
      rw [List.map_cons]
      by_cases c : j ≤ k
      · have : le1 m (.int ((txt (rs.take j)).length : Int)) = some (.int ((txt (rs.take j)).length : Int)) := by
          show (if _ then _ else _) = _
          rw [if_pos (by have := hj.mpr c; omega)]
        rw [List.filterMap_cons_some this, List.length_cons, ih, List.filter_cons_of_pos (by simpa using c), List.length_cons]
      · have : le1 m (.int ((txt (rs.take j)).length : Int)) = none := by
          show (if _ then _ else _) = _
          rw [if_neg (by intro x; exact c (hj.mp (by omega)))]
        rw [List.filterMap_cons_none this, ih, List.filter_cons_of_neg (by simpa using c)]
  unfold E
  rw [gen _ (fun j hj => by have := List.mem_range.mp hj; omega), cnt]
  omega
theorem txt_mono {rs : List Rc} (j : Nat) : (txt (rs.take j)).length ≤ (txt rs).length := by
  have e : txt rs = (go (go ([], "") (rs.take j)) (rs.drop j)).2 := by
    unfold txt
    rw [← go_app, List.take_append_drop]
  rw [e]
  exact go_mono _ _
theorem txt_pos {rs : List Rc} (h : rs ≠ []) {j : Nat} (hj : 1 ≤ j) : 1 ≤ (txt (rs.take j)).length := by
  cases rs with
  | nil => exact absurd rfl h
  | cons r rs =>
    obtain ⟨j, rfl⟩ : ∃ i, j = i + 1 := ⟨j - 1, by omega⟩
    rw [List.take_succ_cons]
    have a := go_mono (rs.take j) (go1 ([], "") r)
    have b := go1_len ([], "") r
    show 1 ≤ (go (go1 ([], "") r) (rs.take j)).2.length
    omega
theorem txt_ends (rs : List Rc) : tl (txt rs) = [] ∨ ∃ a, tl (txt rs) = a ++ [59] := go_ends rs ([], "") (.inl rfl)
/-- what a spot gives -/
theorem spot_facts {rs : List Rc} (v : VA [] rs) (hl : rs.length ≤ 12) {m : Nat} (hm : m ≤ (txt rs).length) : ∃ k : Nat, k ≤ rs.length ∧ ((E rs).filterMap (le1 m)).length = k + 1 ∧
    ∃ x : Str, slD (.str (txt rs)) none (some (m : Int)) = some (.fz (.str x)) ∧ Wh (rs.take k) x ∧ Wh (rs.take k) (txt (rs.take k)) ∧
    ixD (.lst (E rs)) (.int (k : Int)) = some (.fz (.int ((txt (rs.take k)).length : Int))) ∧ slD (.str (txt rs)) none (some ((txt (rs.take k)).length : Int)) = some (.fz (.str (txt (rs.take k)))) := by
  have tl5 := txt_len v hl
  obtain ⟨k, e, hk, he, et, hj⟩ := text_cut rs [] ([], "") m v (Nat.zero_le _) hm
  refine ⟨k, hk, cnt_E hk hj, ⟨((tl (txt rs)).take m).toArray⟩, sl_str hm (by omega), ?_, ?_, ?_, ?_⟩
  · exact whole_run (e := e) et he (txt_ends _) (by
      have : (⟨((tl (txt rs)).take m).toArray⟩ : Str).length = ((tl (txt rs)).take m).length := TL.len_tl _
      rw [this, List.length_take]
      omega)
  · have a := txt_mono (rs := rs) k
    exact whole_run (e := []) (by rw [List.append_nil]) List.not_mem_nil (txt_ends _) (by omega)
  · refine ix_nat (j := k) rfl ?_
    unfold E
    rw [List.getElem?_map, List.getElem?_range (by omega)]
    rfl
  · have a := txt_mono (rs := rs) k
    rw [sl_str a (by omega)]
    obtain ⟨z, ez⟩ := go_pre (rs.drop k) (go ([], "") (rs.take k))
    rw [← go_app, List.take_append_drop] at ez
    have ex : (⟨((tl (txt rs)).take (txt (rs.take k)).length).toArray⟩ : Str) = txt (rs.take k) := by
      refine TL.ext_tl ?_
      show (tl (txt rs)).take (txt (rs.take k)).length = tl (txt (rs.take k))
      have : (txt (rs.take k)).length = (tl (txt (rs.take k))).length := TL.len_tl _
      rw [this]
      show (tl (go ([], "") rs).2).take _ = _
      rw [ez]
      exact List.take_left' rfl
    rw [ex]
end LW

namespace LW
open PySem DL
/-! ### the law -/
abbrev V (s0 s1 s2 s3 s4 s5 s6 s7 s8 s9 s10 s11 s12 : Sl) : DL.Env := [s0, s1, s2, s3, s4, s5, s6, s7, s8, s9, s10, s11, s12]
theorem spot_turn {rs : List Rc} (v : VA [] rs) (hl : rs.length ≤ 12) {K : List (D × D)} {m : Nat} (hm : m ≤ (txt rs).length) {s0 s1 s2 s3 s7 s8 s9 s10 s11 s12 : Sl} (h8 : isBo s8 = false) (h9 : isBo s9 = false) (h10 : isBo s10 = false) (h11 : isBo s11 = false) :
    ∃ ρ1 y8 y9 y10 y11, isBo y8 = false ∧ isBo y9 = false ∧ isBo y10 = false ∧ isBo y11 = false ∧ bindT (.nm 9) (.int (m : Int)) (V s0 s1 s2 s3 (.fz (arc (rs.map Rc.d) K)) (.fz (.str (txt rs))) (.fz (.lst (E rs))) s7 s8 s9 s10 s11 s12) = .ok () ρ1 ∧
      mSeq s_law_11 (mSeq s_law_12 (mSeq s_law_13 s_law_15)) ρ1 = .ok .nx (V s0 s1 s2 s3 (.fz (arc (rs.map Rc.d) K)) (.fz (.str (txt rs))) (.fz (.lst (E rs))) s7 y8 y9 y10 y11 s12) := by
  obtain ⟨k, hk, ec, x, sx, w1, w2, ei, sy⟩ := spot_facts v hl hm
  obtain ⟨K2, cu⟩ := cut_run v (by omega) hk
  have cu := cu K
  obtain ⟨K1, rd⟩ := read_run (v.take k) (by rw [List.length_take]; omega)
  have ae := arc_eq (v.take k) K1 K2
  obtain ⟨L, ln, tr⟩ := told_run (v.take k) (by rw [List.length_take]; omega)
  have to1 := tr _ w1
  have to2 := tr _ w2
  have w1 : F_whole_part [.fz (.str x)] = .ok false (.str (txt (rs.take k))) [] := w1
  have nn : opNeX (.str (txt (rs.take k))) (.str (txt (rs.take k))) = some (.fz (.bl false)) := by
    have : opNe (.str (txt (rs.take k))) (.str (txt (rs.take k))) = some (.fz (.bl false)) := by
      unfold opNe
      rw [eq_str]
      rfl
    unfold opNeX
    rw [this]
  have iA : insF "Archive" (arc (rs.map Rc.d) K) = some [(("kept_records" : Str), D.lst (rs.map Rc.d)), (("headed" : Str), D.dct K)] := rfl
  have lA : List.lookup (α := Str) "cut" [(("kept_records" : Str), D.lst (rs.map Rc.d)), (("headed" : Str), D.dct K)] = none := rfl
  have iB : (insF "Archive" (arc ((rs.take k).map Rc.d) K1)) = some [(("kept_records" : Str), D.lst ((rs.take k).map Rc.d)), (("headed" : Str), D.dct K1)] := rfl
  have iC : (insF "Archive" (arc ((rs.take k).map Rc.d) K2)) = some [(("kept_records" : Str), D.lst ((rs.take k).map Rc.d)), (("headed" : Str), D.dct K2)] := rfl
  generalize [(("kept_records" : Str), D.lst (rs.map Rc.d)), (("headed" : Str), D.dct K)] = fA at iA lA
  generalize [(("kept_records" : Str), D.lst ((rs.take k).map Rc.d)), (("headed" : Str), D.dct K1)] = fB at iB
  generalize [(("kept_records" : Str), D.lst ((rs.take k).map Rc.d)), (("headed" : Str), D.dct K2)] = fC at iC
  generalize arc (rs.map Rc.d) K = A at *
  generalize arc ((rs.take k).map Rc.d) K1 = B at *
  generalize arc ((rs.take k).map Rc.d) K2 = C at *
  have hx : ∀ d ∈ E rs, ∃ i : Int, d = .int i := fun d hd => by
    obtain ⟨j, _, rfl⟩ := List.mem_map.mp hd
    exact ⟨_, rfl⟩
  have hE : (E rs).length ≤ 100 := by unfold E; rw [List.length_map, List.length_range]; omega
  generalize E rs = ee at *
  generalize txt (rs.take k) = y at *
  generalize txt rs = z at *
  clear v hl hk hm tr
  have b1 : bindT (.nm 9) (.int (m : Int)) (V s0 s1 s2 s3 (.fz A) (.fz (.str z)) (.fz (.lst ee)) s7 s8 s9 s10 s11 s12) = .ok () (V s0 s1 s2 s3 (.fz A) (.fz (.str z)) (.fz (.lst ee)) s7 s8 (.fz (.int (m : Int))) s10 s11 s12) := by simp [V, h9]
  have ci : mItems (mVar 6) (V s0 s1 s2 s3 (.fz A) (.fz (.str z)) (.fz (.lst ee)) s7 s8 (.fz (.int (m : Int))) s10 s11 s12) = .ok ee (V s0 s1 s2 s3 (.fz A) (.fz (.str z)) (.fz (.lst ee)) s7 s8 (.fz (.int (m : Int))) s10 s11 s12) := by simp [V]
  have cm := comp_run (φ := mVar 8) (τ := mTest (mOp opLe (mVar 8) (mVar 9))) ci (i := 8) (s := s8) rfl h8 (le1 m) (fun d hd => by
    obtain ⟨i, rfl⟩ := hx d hd
    by_cases c : i ≤ (m : Int)
    · have e1 : le1 m (.int i) = some (.int i) := by show (if _ then _ else _) = _; rw [if_pos c]
      rw [e1]
      refine ⟨fun q => (by cases q), fun x q => ?_⟩
      cases q
      exact ⟨by simp [V, c], .sl 8, by simp [V], by simp [V]⟩
    · have e1 : le1 m (.int i) = none := by show (if _ then _ else _) = _; rw [if_neg c]
      rw [e1]
      exact ⟨fun _ => (by simp [V, c]), fun x q => (by cases q)⟩) (by omega)
  generalize hq : ee.filterMap (le1 m) = q at cm ec
  have lq : fLen [.lst q] = some (.fz (.int ((k : Int) + 1))) := by
    show some (AV.fz (.int q.length)) = _
    rw [ec]
    rfl
  have cm : mComp (mItems (mVar 6)) [8] (.nm 8) (mTest (mOp opLe (mVar 8) (mVar 9))) (mVar 8) (V s0 s1 s2 s3 (.fz A) (.fz (.str z)) (.fz (.lst ee)) s7 s8 (.fz (.int (m : Int))) s10 s11 s12) = .ok (.ow (.lst q)) (V s0 s1 s2 s3 (.fz A) (.fz (.str z)) (.fz (.lst ee)) s7 (rsS s8) (.fz (.int (m : Int))) s10 s11 s12) := cm
  have kk : (k : Int) + 1 - 1 = k := by omega
  have t11 : s_law_11 (V s0 s1 s2 s3 (.fz A) (.fz (.str z)) (.fz (.lst ee)) s7 s8 (.fz (.int (m : Int))) s10 s11 s12) = .ok .nx (V s0 s1 s2 s3 (.fz A) (.fz (.str z)) (.fz (.lst ee)) s7 (rsS s8) (.fz (.int (m : Int))) (.fz (.int (k : Int))) s11 s12) := by
    unfold s_law_11
    generalize mComp (mItems (mVar 6)) [8] (.nm 8) (mTest (mOp opLe (mVar 8) (mVar 9))) (mVar 8) = cmp at cm ⊢
    unfold V at cm ⊢
    simp [cm, lq, kk, h10]
  have t12 : s_law_12 (V s0 s1 s2 s3 (.fz A) (.fz (.str z)) (.fz (.lst ee)) s7 (rsS s8) (.fz (.int (m : Int))) (.fz (.int (k : Int))) s11 s12) = .ok .nx (V s0 s1 s2 s3 (.fz A) (.fz (.str z)) (.fz (.lst ee)) s7 (rsS s8) (.fz (.int (m : Int))) (.fz (.int (k : Int))) (.fz (.str y)) s12) := by
    unfold s_law_12 V
    simp [sx, w1, h11]
  have t13 : s_law_13 (V s0 s1 s2 s3 (.fz A) (.fz (.str z)) (.fz (.lst ee)) s7 (rsS s8) (.fz (.int (m : Int))) (.fz (.int (k : Int))) (.fz (.str y)) s12) = .ok .nx (V s0 s1 s2 s3 (.fz A) (.fz (.str z)) (.fz (.lst ee)) s7 (rsS s8) (.fz (.int (m : Int))) (.fz (.int (k : Int))) (.fz (.str y)) s12) := by
    have a1 : mTest (mOp opNeX (mVar 11) (mSl (mVar 5) none (some (mOp ixD (mVar 6) (mVar 10))))) (V s0 s1 s2 s3 (.fz A) (.fz (.str z)) (.fz (.lst ee)) s7 (rsS s8) (.fz (.int (m : Int))) (.fz (.int (k : Int))) (.fz (.str y)) s12) = .ok false (V s0 s1 s2 s3 (.fz A) (.fz (.str z)) (.fz (.lst ee)) s7 (rsS s8) (.fz (.int (m : Int))) (.fz (.int (k : Int))) (.fz (.str y)) s12) := by
      unfold V
      simp [ei, sy, nn]
    have a2 : mCallF 1 F_read (mRc .fz (mVar 11) mNil) (V s0 s1 s2 s3 (.fz A) (.fz (.str z)) (.fz (.lst ee)) s7 (rsS s8) (.fz (.int (m : Int))) (.fz (.int (k : Int))) (.fz (.str y)) s12) = .ok (.ow B) (V s0 s1 s2 s3 (.fz A) (.fz (.str z)) (.fz (.lst ee)) s7 (rsS s8) (.fz (.int (m : Int))) (.fz (.int (k : Int))) (.fz (.str y)) s12) := by
      unfold V
      simp [rd]
    have a3 : mMeth "Archive" "cut" .fz 2 F_Archive_cut (mVar 4) (mRc .fz (mVar 10) mNil) (V s0 s1 s2 s3 (.fz A) (.fz (.str z)) (.fz (.lst ee)) s7 (rsS s8) (.fz (.int (m : Int))) (.fz (.int (k : Int))) (.fz (.str y)) s12) = .ok (.ow C) (V s0 s1 s2 s3 (.fz A) (.fz (.str z)) (.fz (.lst ee)) s7 (rsS s8) (.fz (.int (m : Int))) (.fz (.int (k : Int))) (.fz (.str y)) s12) := by
      unfold V
      simp [mMeth, iA, lA, cu]
    have a4 : mTest (mOwn "Archive" true F_Archive_eq (mCallF 1 F_read (mRc .fz (mVar 11) mNil)) (mMeth "Archive" "cut" .fz 2 F_Archive_cut (mVar 4) (mRc .fz (mVar 10) mNil))) (V s0 s1 s2 s3 (.fz A) (.fz (.str z)) (.fz (.lst ee)) s7 (rsS s8) (.fz (.int (m : Int))) (.fz (.int (k : Int))) (.fz (.str y)) s12) = .ok false (V s0 s1 s2 s3 (.fz A) (.fz (.str z)) (.fz (.lst ee)) s7 (rsS s8) (.fz (.int (m : Int))) (.fz (.int (k : Int))) (.fz (.str y)) s12) := by
      generalize mCallF 1 F_read (mRc .fz (mVar 11) mNil) = c1 at a2 ⊢
      generalize mMeth "Archive" "cut" .fz 2 F_Archive_cut (mVar 4) (mRc .fz (mVar 10) mNil) = c2 at a3 ⊢
      unfold V at *
      simp [mOwn, a2, a3, iB, iC, ae]
    unfold s_law_13
    generalize mTest (mOp opNeX (mVar 11) (mSl (mVar 5) none (some (mOp ixD (mVar 6) (mVar 10))))) = c1 at a1 ⊢
    generalize mTest (mOwn "Archive" true F_Archive_eq (mCallF 1 F_read (mRc .fz (mVar 11) mNil)) (mMeth "Archive" "cut" .fz 2 F_Archive_cut (mVar 4) (mRc .fz (mVar 10) mNil))) = c2 at a4 ⊢
    unfold V at *
    simp [a1, a4]
  have t15 : s_law_15 (V s0 s1 s2 s3 (.fz A) (.fz (.str z)) (.fz (.lst ee)) s7 (rsS s8) (.fz (.int (m : Int))) (.fz (.int (k : Int))) (.fz (.str y)) s12) = .ok .nx (V s0 s1 s2 s3 (.fz A) (.fz (.str z)) (.fz (.lst ee)) s7 (rsS s8) (.fz (.int (m : Int))) (.fz (.int (k : Int))) (.fz (.str y)) s12) := by
    unfold s_law_15 V
    simp [sx, to1, to2, ln]
  exact ⟨_, rsS s8, .fz (.int (m : Int)), .fz (.int (k : Int)), .fz (.str y), by cases s8 <;> rfl, rfl, rfl, rfl, b1, (seq_nx t11).trans ((seq_nx t12).trans ((seq_nx t13).trans t15))⟩
end LW

namespace LW
open PySem DL
def Sp (n : Nat) (ds : List D) : Prop := ∀ d ∈ ds, ∃ m : Nat, d = .int (m : Int) ∧ m ≤ n
theorem spots_loop {rs : List Rc} (v : VA [] rs) (hl : rs.length ≤ 12) {K : List (D × D)} {s0 s1 s2 s3 s7 s12 : Sl} : ∀ (ds : List D) (s8 s9 s10 s11 : Sl), Sp (txt rs).length ds → isBo s8 = false → isBo s9 = false → isBo s10 = false → isBo s11 = false →
    ∃ y8 y9 y10 y11, isBo y8 = false ∧ isBo y9 = false ∧ isBo y10 = false ∧ isBo y11 = false ∧ loopF (.nm 9) (mSeq s_law_11 (mSeq s_law_12 (mSeq s_law_13 s_law_15))) ds (V s0 s1 s2 s3 (.fz (arc (rs.map Rc.d) K)) (.fz (.str (txt rs))) (.fz (.lst (E rs))) s7 s8 s9 s10 s11 s12) = .ok .nx (V s0 s1 s2 s3 (.fz (arc (rs.map Rc.d) K)) (.fz (.str (txt rs))) (.fz (.lst (E rs))) s7 y8 y9 y10 y11 s12)
  | [], s8, s9, s10, s11, _, h8, h9, h10, h11 => ⟨s8, s9, s10, s11, h8, h9, h10, h11, rfl⟩
  | d :: ds, s8, s9, s10, s11, hd, h8, h9, h10, h11 => by
    obtain ⟨m, rfl, hm⟩ := hd d List.mem_cons_self
    obtain ⟨ρ1, y8, y9, y10, y11, g8, g9, g10, g11, b, e⟩ := spot_turn (s0 := s0) (s1 := s1) (s2 := s2) (s3 := s3) (s7 := s7) (s12 := s12) (K := K) v hl hm h8 h9 h10 h11
    obtain ⟨z8, z9, z10, z11, k8, k9, k10, k11, r⟩ := spots_loop v hl (K := K) (s0 := s0) (s1 := s1) (s2 := s2) (s3 := s3) (s7 := s7) (s12 := s12) ds y8 y9 y10 y11 (fun x hx => hd x (List.mem_cons_of_mem _ hx)) g8 g9 g10 g11
    exact ⟨z8, z9, z10, z11, k8, k9, k10, k11, by rw [loop_cons b (.inl e)]; exact r⟩
theorem ext_loop {n : Nat} {s0 s1 s2 s3 s4 s5 s6 s9 s10 s11 s12 : Sl} : ∀ (q sp : List D) (s8 : Sl), (∀ d ∈ q, ∃ m : Nat, d = .int (m : Int) ∧ 1 ≤ m ∧ m ≤ n) → Sp n sp → sp.length + 2 * q.length ≤ 1000 → isBo s8 = false →
    ∃ sp' y8, Sp n sp' ∧ sp'.length ≤ 1000 ∧ isBo y8 = false ∧ loopF (.nm 8) s_law_9 q (V s0 s1 s2 s3 s4 s5 s6 (.ow (.lst sp)) s8 s9 s10 s11 s12) = .ok .nx (V s0 s1 s2 s3 s4 s5 s6 (.ow (.lst sp')) y8 s9 s10 s11 s12)
  | [], sp, s8, _, h, hl, h8 => ⟨sp, s8, h, by omega, h8, rfl⟩
  | d :: q, sp, s8, hq, h, hl, h8 => by
    rw [List.length_cons] at hl
    obtain ⟨m, rfl, m1, m2⟩ := hq d List.mem_cons_self
    have ad := add_l (a := sp) (c := [.int ((m : Int) - 1), .int (m : Int)]) (by show _ + 2 ≤ _; omega)
    have b : bindT (.nm 8) (.int (m : Int)) (V s0 s1 s2 s3 s4 s5 s6 (.ow (.lst sp)) s8 s9 s10 s11 s12) = .ok () (V s0 s1 s2 s3 s4 s5 s6 (.ow (.lst sp)) (.fz (.int (m : Int))) s9 s10 s11 s12) := by simp [V, h8]
    have c : s_law_9 (V s0 s1 s2 s3 s4 s5 s6 (.ow (.lst sp)) (.fz (.int (m : Int))) s9 s10 s11 s12) = .ok .nx (V s0 s1 s2 s3 s4 s5 s6 (.ow (.lst (sp ++ [.int ((m : Int) - 1), .int (m : Int)]))) (.fz (.int (m : Int))) s9 s10 s11 s12) := by
      unfold s_law_9 V
      simp [ad, sl2]
    obtain ⟨sp', y8, g1, g2, g3, e⟩ := ext_loop (n := n) (s0 := s0) (s1 := s1) (s2 := s2) (s3 := s3) (s4 := s4) (s5 := s5) (s6 := s6) (s9 := s9) (s10 := s10) (s11 := s11) (s12 := s12) q (sp ++ [.int ((m : Int) - 1), .int (m : Int)]) (.fz (.int (m : Int))) (fun x hx => hq x (List.mem_cons_of_mem _ hx)) (fun x hx => by
      rcases List.mem_append.mp hx with hx | hx
      · exact h x hx
      · simp only [List.mem_cons, List.not_mem_nil, or_false] at hx
        rcases hx with rfl | rfl
        · exact ⟨m - 1, by rw [show (m : Int) - 1 = ((m - 1 : Nat) : Int) by omega], by omega⟩
        · exact ⟨m, rfl, m2⟩) (by rw [List.length_append]; show _ + 2 + _ ≤ _; omega) rfl
    exact ⟨sp', y8, g1, g2, g3, by rw [loop_cons b (.inl c)]; exact e⟩
abbrev drawE : M AV := mCallF 2 F_law_take (mRc .keep (mVar 2) (mRc .fz (mOp opAdd (mCall fLen (mCons (mVar 5) mNil)) (mC (.int 1))) mNil))
theorem draws {z : Str} (hz : z.length ≤ 504) {s0 s1 s3 s4 s6 s7 s8 s9 s10 s11 : Sl} : ∀ (ds acc : List D) (a b : Int), acc.length + ds.length ≤ 100 → ∃ more a' b', Sp z.length more ∧ more.length = ds.length ∧ loopC [12] (.nm 12) (M.ret true) drawE ds acc (V s0 s1 (.ow (feed a b)) s3 s4 (.fz (.str z)) s6 s7 s8 s9 s10 s11 .un) = .ok (acc ++ more) (V s0 s1 (.ow (feed a' b')) s3 s4 (.fz (.str z)) s6 s7 s8 s9 s10 s11 .un)
  | [], acc, a, b, _ => ⟨[], a, b, fun d hd => absurd hd List.not_mem_nil, rfl, by rw [List.append_nil]; rfl⟩
  | d :: ds, acc, a, b, hl => by
    rw [List.length_cons] at hl
    obtain ⟨r, a1, b1, r0, r1, e⟩ := take_run a b ((z.length : Int) + 1) (by omega) (by omega)
    obtain ⟨j, rfl⟩ : ∃ j : Nat, r = (j : Int) := ⟨r.toNat, by omega⟩
    obtain ⟨more, a', b', g1, g2, g3⟩ := draws hz (s0 := s0) (s1 := s1) (s3 := s3) (s4 := s4) (s6 := s6) (s7 := s7) (s8 := s8) (s9 := s9) (s10 := s10) (s11 := s11) ds (acc ++ [.int (j : Int)]) a1 b1 (by rw [List.length_append, List.length_singleton]; omega)
    refine ⟨.int (j : Int) :: more, a', b', fun x hx => ?_, by rw [List.length_cons, List.length_cons, g2], ?_⟩
    · rcases List.mem_cons.mp hx with rfl | hx
      · exact ⟨j, rfl, by omega⟩
      · exact g1 x hx
    · have ln : fLen [.str z] = some (.fz (.int z.length)) := len_s (by omega)
      have bd : bindT (.nm 12) d (V s0 s1 (.ow (feed a b)) s3 s4 (.fz (.str z)) s6 s7 s8 s9 s10 s11 .un) = .ok () (V s0 s1 (.ow (feed a b)) s3 s4 (.fz (.str z)) s6 s7 s8 s9 s10 s11 (.fz d)) := by simp [V]
      have dr : drawE (V s0 s1 (.ow (feed a b)) s3 s4 (.fz (.str z)) s6 s7 s8 s9 s10 s11 (.fz d)) = .ok (.fz (.int (j : Int))) (V s0 s1 (.ow (feed a1 b1)) s3 s4 (.fz (.str z)) s6 s7 s8 s9 s10 s11 (.fz d)) := by
        unfold drawE V
        simp [ln, e]
      have sz : acc.length < sizeLine := by have := sl_small 1000 (by omega); omega
      have wp : wipeM [12] (V s0 s1 (.ow (feed a1 b1)) s3 s4 (.fz (.str z)) s6 s7 s8 s9 s10 s11 (.fz d)) = .ok () (V s0 s1 (.ow (feed a1 b1)) s3 s4 (.fz (.str z)) s6 s7 s8 s9 s10 s11 .un) := wipeM_of (wipe1_of (s := .fz d) rfl rfl)
      unfold loopC
      rw [bnd_ok bd]
      show (drawE.bnd fun av => (frz av).bnd fun x => if acc.length < sizeLine then (wipeM [12]).bnd fun _ => loopC [12] (.nm 12) (M.ret true) drawE ds (acc ++ [x]) else M.stuck) _ = _
      rw [bnd_ok dr]
      show (if acc.length < sizeLine then (wipeM [12]).bnd fun _ => loopC [12] (.nm 12) (M.ret true) drawE ds (acc ++ [.int (j : Int)]) else M.stuck) _ = _
      rw [if_pos sz, bnd_ok wp, g3, List.append_assoc]
      rfl
theorem law7 {z : Str} (hz : z.length ≤ 504) {s0 s1 s3 s4 s6 s7 s8 s9 s10 s11 s12 : Sl} (a b : Int) (h7 : isBo s7 = false) (h12 : isBo s12 = false) : ∃ sp a' b' y12, Sp z.length sp ∧ sp.length ≤ 100 ∧ isBo y12 = false ∧ s_law_7 (V s0 s1 (.ow (feed a b)) s3 s4 (.fz (.str z)) s6 s7 s8 s9 s10 s11 s12) = .ok .nx (V s0 s1 (.ow (feed a' b')) s3 s4 (.fz (.str z)) s6 (.ow (.lst sp)) s8 s9 s10 s11 y12) := by
  obtain ⟨more, a', b', g1, g2, g3⟩ := draws hz (s0 := s0) (s1 := s1) (s3 := s3) (s4 := s4) (s6 := s6) (s7 := s7) (s8 := s8) (s9 := s9) (s10 := s10) (s11 := s11) (rangeD 0 8) [] a b (by decide)
  have rl : (rangeD 0 8).length = 8 := by decide
  have ln : fLen [.str z] = some (.fz (.int z.length)) := len_s (by omega)
  have it : mIt range1 (mCons (mC (.int 8)) mNil) (V s0 s1 (.ow (feed a b)) s3 s4 (.fz (.str z)) s6 s7 s8 s9 s10 s11 s12) = .ok (rangeD 0 8) (V s0 s1 (.ow (feed a b)) s3 s4 (.fz (.str z)) s6 s7 s8 s9 s10 s11 s12) := by
    have ea : mCons (mC (.int 8)) mNil (V s0 s1 (.ow (feed a b)) s3 s4 (.fz (.str z)) s6 s7 s8 s9 s10 s11 s12) = .ok [.fz (.int ((8 : Nat) : Int))] (V s0 s1 (.ow (feed a b)) s3 s4 (.fz (.str z)) s6 s7 s8 s9 s10 s11 s12) := by simp
    have er : rdAll [.fz (.int ((8 : Nat) : Int))] (V s0 s1 (.ow (feed a b)) s3 s4 (.fz (.str z)) s6 s7 s8 s9 s10 s11 s12) = .ok [.int ((8 : Nat) : Int)] (V s0 s1 (.ow (feed a b)) s3 s4 (.fz (.str z)) s6 s7 s8 s9 s10 s11 s12) := rfl
    exact range_run ea er (by omega)
  have wp : wipeE [12] (V s0 s1 (.ow (feed a b)) s3 s4 (.fz (.str z)) s6 s7 s8 s9 s10 s11 s12) = some (V s0 s1 (.ow (feed a b)) s3 s4 (.fz (.str z)) s6 s7 s8 s9 s10 s11 .un) := wipe1_of (s := s12) rfl h12
  have cm : mComp (mIt range1 (mCons (mC (.int 8)) mNil)) [12] (.nm 12) (M.ret true) drawE (V s0 s1 (.ow (feed a b)) s3 s4 (.fz (.str z)) s6 s7 s8 s9 s10 s11 s12) = .ok (.ow (.lst more)) (V s0 s1 (.ow (feed a' b')) s3 s4 (.fz (.str z)) s6 s7 s8 s9 s10 s11 (rsS s12)) := by
    unfold mComp
    rw [bnd_ok it]
    simp only [wp, g3]
    rw [List.nil_append]
    unfold restE restE
    cases s12 <;> rfl
  have ad := add_l (a := [.int 0, .int (z.length : Int)]) (c := more) (by rw [g2, rl]; show 2 + 8 ≤ 5000; omega)
  refine ⟨[.int 0, .int (z.length : Int)] ++ more, a', b', rsS s12, fun d hd => ?_, by rw [List.length_append, g2, rl]; show 2 + 8 ≤ 100; omega, by cases s12 <;> rfl, ?_⟩
  · rcases List.mem_append.mp hd with h | h
    · simp only [List.mem_cons, List.not_mem_nil, or_false] at h
      rcases h with rfl | rfl
      · exact ⟨0, rfl, Nat.zero_le _⟩
      · exact ⟨z.length, rfl, Nat.le_refl _⟩
    · exact g1 d h
  · unfold s_law_7
    have cm := cm
    unfold drawE at cm
    generalize mComp (mIt range1 (mCons (mC (.int 8)) mNil)) [12] (.nm 12) (M.ret true) (mCallF 2 F_law_take (mRc .keep (mVar 2) (mRc .fz (mOp opAdd (mCall fLen (mCons (mVar 5) mNil)) (mC (.int 1))) mNil))) = cmp at cm ⊢
    unfold V at cm ⊢
    generalize [D.int 0, D.int (z.length : Int)] ++ more = SP at ad ⊢
    simp [cm, ln, ad, sl2, h7]
end LW

namespace LW
open PySem DL
def endF (rs : List Rc) : D → D
  | .int i => .int ((txt (rs.take i.toNat)).length : Int)
  | d => d
theorem E_map (rs : List Rc) : (rangeD 0 (rs.length + 1)).map (endF rs) = E rs := by
  unfold rangeD E
  rw [List.map_map]
  refine List.map_congr_left fun j _ => ?_
  show D.int ((txt (rs.take ((0 : Int) + (j : Int)).toNat)).length : Int) = _
  rw [Int.zero_add, Int.toNat_natCast]
theorem ends_it {g : List D} {n : Nat} {A : D} {s0 s1 s2 s5 s6 s7 s8 s9 s10 s11 s12 : Sl} (ln : fLen [.lst g] = some (.fz (.int (n : Int)))) (hn : n ≤ 12) : mIt range1 (mCons (mOp opAdd (mCall fLen (mCons (mVar 3) mNil)) (mC (.int 1))) mNil) (V s0 s1 s2 (.fz (.lst g)) (.fz A) s5 s6 s7 s8 s9 s10 s11 s12) = .ok (rangeD 0 (n + 1)) (V s0 s1 s2 (.fz (.lst g)) (.fz A) s5 s6 s7 s8 s9 s10 s11 s12) := by
  have ec : (n : Int) + 1 = ((n + 1 : Nat) : Int) := by omega
  have ea : mCons (mOp opAdd (mCall fLen (mCons (mVar 3) mNil)) (mC (.int 1))) mNil (V s0 s1 s2 (.fz (.lst g)) (.fz A) s5 s6 s7 s8 s9 s10 s11 s12) = .ok [.fz (.int ((n : Int) + 1))] (V s0 s1 s2 (.fz (.lst g)) (.fz A) s5 s6 s7 s8 s9 s10 s11 s12) := by simp [V, ln]
  rw [ec] at ea
  have er : rdAll [.fz (.int ((n + 1 : Nat) : Int))] (V s0 s1 s2 (.fz (.lst g)) (.fz A) s5 s6 s7 s8 s9 s10 s11 s12) = .ok [.int ((n + 1 : Nat) : Int)] (V s0 s1 s2 (.fz (.lst g)) (.fz A) s5 s6 s7 s8 s9 s10 s11 s12) := by simp
  exact range_run ea er (by omega)
theorem law6_cm {rs : List Rc} (v : VA [] rs) (hl : rs.length ≤ 12) {K : List (D × D)} {ι : M (List D)} {s0 s1 s2 s3 s5 s6 s7 s8 s9 s10 s11 s12 : Sl} (h10 : isBo s10 = false) (it : ι (V s0 s1 s2 s3 (.fz (arc (rs.map Rc.d) K)) s5 s6 s7 s8 s9 s10 s11 s12) = .ok (rangeD 0 (rs.length + 1)) (V s0 s1 s2 s3 (.fz (arc (rs.map Rc.d) K)) s5 s6 s7 s8 s9 s10 s11 s12)) :
    mComp ι [10] (.nm 10) (M.ret true) (mCall fLen (mCons (mCallF 1 F_show (mRc .fz (mMeth "Archive" "cut" .fz 2 F_Archive_cut (mVar 4) (mRc .fz (mVar 10) mNil)) mNil)) mNil)) (V s0 s1 s2 s3 (.fz (arc (rs.map Rc.d) K)) s5 s6 s7 s8 s9 s10 s11 s12) = .ok (.ow (.lst (E rs))) (V s0 s1 s2 s3 (.fz (arc (rs.map Rc.d) K)) s5 s6 s7 s8 s9 (rsS s10) s11 s12) := by
  have cuts : ∀ j : Nat, j ≤ rs.length → ∃ C, F_Archive_cut [.fz (arc (rs.map Rc.d) K), .fz (.int (j : Int))] = .ok true C [] ∧ F_show [.fz C] = .ok false (.str (txt (rs.take j))) [] ∧ fLen [.str (txt (rs.take j))] = some (.fz (.int ((txt (rs.take j)).length : Int))) := fun j hj => by
    obtain ⟨K2, cu⟩ := cut_run v (by omega) hj
    have t5 := txt_len v hl
    have tm := txt_mono (rs := rs) j
    exact ⟨_, cu K, show_run (v.take j) (by rw [List.length_take]; omega) K2, len_s (by omega)⟩
  have iA : insF "Archive" (arc (rs.map Rc.d) K) = some [(("kept_records" : Str), D.lst (rs.map Rc.d)), (("headed" : Str), D.dct K)] := rfl
  have lA : List.lookup (α := Str) "cut" [(("kept_records" : Str), D.lst (rs.map Rc.d)), (("headed" : Str), D.dct K)] = none := rfl
  generalize [(("kept_records" : Str), D.lst (rs.map Rc.d)), (("headed" : Str), D.dct K)] = fA at iA lA
  have eE := E_map rs
  generalize arc (rs.map Rc.d) K = A at *
  have ds : ∀ d ∈ rangeD 0 (rs.length + 1), ∃ j : Nat, j ≤ rs.length ∧ d = .int (j : Int) := fun d hd => by
    unfold rangeD at hd
    obtain ⟨j, hj, rfl⟩ := List.mem_map.mp hd
    have hj := List.mem_range.mp hj
    exact ⟨j, by omega, by rw [Int.zero_add]⟩
  have dl : (rangeD 0 (rs.length + 1)).length ≤ 1000 := by unfold rangeD; rw [List.length_map, List.length_range]; omega
  rw [← eE]
  generalize rangeD 0 (rs.length + 1) = R at *
  refine comp_map it (i := 10) (s := s10) rfl h10 (endF rs) (fun d hd => ?_) (by omega)
  obtain ⟨j, hj, rfl⟩ := ds d hd
  obtain ⟨C, e1, e2, e3⟩ := cuts j hj
  have ee : endF rs (.int (j : Int)) = .int ((txt (rs.take j)).length : Int) := by
    show D.int ((txt (rs.take ((j : Int)).toNat)).length : Int) = _
    rw [Int.toNat_natCast]
  rw [ee]
  generalize txt (rs.take j) = x at *
  refine ⟨.fz (.int (x.length : Int)), ?_, rfl⟩
  unfold V
  simp [mMeth, iA, lA, e1, e2, e3]
theorem asg6 {φ : M AV} {ee : List D} {s0 s1 s2 s3 s4 s5 s6 s7 s8 s9 s10 x10 s11 s12 : Sl} (h : φ (V s0 s1 s2 s3 s4 s5 s6 s7 s8 s9 s10 s11 s12) = .ok (.ow (.lst ee)) (V s0 s1 s2 s3 s4 s5 s6 s7 s8 s9 x10 s11 s12)) (h6 : isBo s6 = false) : mAsg 6 φ (V s0 s1 s2 s3 s4 s5 s6 s7 s8 s9 s10 s11 s12) = .ok .nx (V s0 s1 s2 s3 s4 s5 (.ow (.lst ee)) s7 s8 s9 x10 s11 s12) := by
  unfold V at *
  simp [h, h6]
theorem law6 {rs : List Rc} (v : VA [] rs) (hl : rs.length ≤ 12) {K : List (D × D)} {s0 s1 s2 s5 s6 s7 s8 s9 s10 s11 s12 : Sl} (h6 : isBo s6 = false) (h10 : isBo s10 = false) : s_law_6 (V s0 s1 s2 (.fz (.lst (rs.map Rc.d))) (.fz (arc (rs.map Rc.d) K)) s5 s6 s7 s8 s9 s10 s11 s12) = .ok .nx (V s0 s1 s2 (.fz (.lst (rs.map Rc.d))) (.fz (arc (rs.map Rc.d) K)) s5 (.ow (.lst (E rs))) s7 s8 s9 (rsS s10) s11 s12) := by
  have ln : fLen [.lst (rs.map Rc.d)] = some (.fz (.int rs.length)) := by
    show some (AV.fz (.int (rs.map Rc.d).length)) = _
    rw [List.length_map]
  unfold s_law_6
  exact asg6 (law6_cm v hl h10 (ends_it ln hl)) h6
theorem sl_14 {l : List D} (h : 1 ≤ l.length) : ∃ n, slD (.lst l) (some 1) (some 4) = some (.ow (.lst ((l.drop 1).take n))) := by
  have e1 : HT.sIx l.length 0 (some 1) = 1 := by
    show (if (1 : Int) < 0 then ((1 : Int) + (l.length : Int)).toNat else min ((1 : Int)).toNat l.length) = 1
    rw [if_neg (by decide)]
    show min 1 l.length = 1
    omega
  refine ⟨HT.sIx l.length l.length (some 4) - HT.sIx l.length 0 (some 1), ?_⟩
  show some (AV.ow (.lst ((l.drop (HT.sIx l.length 0 (some 1))).take (HT.sIx l.length l.length (some 4) - HT.sIx l.length 0 (some 1))))) = _
  rw [e1]
theorem law8 {rs : List Rc} (hn : rs ≠ []) (hl : rs.length ≤ 12) {s0 s1 s2 s3 s4 s5 s8 s9 s10 s11 s12 : Sl} {sp : List D} (hs : Sp (txt rs).length sp) (hs2 : sp.length ≤ 100) (h8 : isBo s8 = false) : ∃ sp' y8, Sp (txt rs).length sp' ∧ sp'.length ≤ 1000 ∧ isBo y8 = false ∧ s_law_8 (V s0 s1 s2 s3 s4 s5 (.ow (.lst (E rs))) (.ow (.lst sp)) s8 s9 s10 s11 s12) = .ok .nx (V s0 s1 s2 s3 s4 s5 (.fz (.lst (E rs))) (.ow (.lst sp')) y8 s9 s10 s11 s12) := by
  have el : (E rs).length = rs.length + 1 := by unfold E; rw [List.length_map, List.length_range]
  obtain ⟨n, sl⟩ := sl_14 (l := E rs) (by omega)
  have mem : ∀ d ∈ ((E rs).drop 1).take n, ∃ m : Nat, d = .int (m : Int) ∧ 1 ≤ m ∧ m ≤ (txt rs).length := fun d hd => by
    have hd := List.mem_of_mem_take hd
    obtain ⟨i, hi⟩ := List.mem_iff_getElem?.mp hd
    rw [List.getElem?_drop] at hi
    unfold E at hi
    rw [List.getElem?_map] at hi
    cases hr : (List.range (rs.length + 1))[1 + i]? with
    | none => rw [hr] at hi; cases hi
    | some j =>
      rw [hr] at hi
      have hj : j = 1 + i := by
        have hx : 1 + i < rs.length + 1 := by
          have := (List.getElem?_eq_some_iff.mp hr).1
          rwa [List.length_range] at this
        rw [List.getElem?_range hx] at hr
        exact (Option.some.inj hr).symm
      have hd : d = .int ((txt (rs.take j)).length : Int) := (Option.some.inj hi).symm
      exact ⟨_, hd, txt_pos hn (by omega), txt_mono j⟩
  have ql : (((E rs).drop 1).take n).length ≤ 12 := by rw [List.length_take, List.length_drop]; omega
  generalize ((E rs).drop 1).take n = q at *
  obtain ⟨sp', y8, g1, g2, g3, e⟩ := ext_loop (s0 := s0) (s1 := s1) (s2 := s2) (s3 := s3) (s4 := s4) (s5 := s5) (s6 := .fz (.lst (E rs))) (s9 := s9) (s10 := s10) (s11 := s11) (s12 := s12) q sp s8 mem hs (by omega) h8
  refine ⟨sp', y8, g1, g2, g3, ?_⟩
  generalize E rs = ee at *
  have hi : mItems (mSl (mVar 6) (some (mC (.int 1))) (some (mC (.int 4)))) (V s0 s1 s2 s3 s4 s5 (.ow (.lst ee)) (.ow (.lst sp)) s8 s9 s10 s11 s12) = .ok q (V s0 s1 s2 s3 s4 s5 (.fz (.lst ee)) (.ow (.lst sp)) s8 s9 s10 s11 s12) := by simp [V, sl]
  unfold s_law_8
  rw [for_run hi]
  exact e
end LW

namespace LW
open PySem DL
abbrev lawBody : M Ctl := mSeq s_law_2 (mSeq s_law_3 (mSeq s_law_4 (mSeq s_law_5 (mSeq s_law_6 (mSeq s_law_7 (mSeq s_law_8 s_law_10))))))
def nb (s : Sl) : Prop := isBo s = false
theorem law10 {rs : List Rc} (v : VA [] rs) (hl : rs.length ≤ 12) {K : List (D × D)} {s0 s1 s2 s3 s8 s9 s10 s11 s12 : Sl} {sp : List D} (hs : Sp (txt rs).length sp) (h8 : nb s8) (h9 : nb s9) (h10 : nb s10) (h11 : nb s11) :
    ∃ y7 y8 y9 y10 y11, nb y7 ∧ nb y8 ∧ nb y9 ∧ nb y10 ∧ nb y11 ∧ s_law_10 (V s0 s1 s2 s3 (.fz (arc (rs.map Rc.d) K)) (.fz (.str (txt rs))) (.fz (.lst (E rs))) (.ow (.lst sp)) s8 s9 s10 s11 s12) = .ok .nx (V s0 s1 s2 s3 (.fz (arc (rs.map Rc.d) K)) (.fz (.str (txt rs))) (.fz (.lst (E rs))) y7 y8 y9 y10 y11 s12) := by
  obtain ⟨y8, y9, y10, y11, g8, g9, g10, g11, e⟩ := spots_loop (s0 := s0) (s1 := s1) (s2 := s2) (s3 := s3) (s7 := .fz (.lst sp)) (s12 := s12) (K := K) v hl sp s8 s9 s10 s11 hs h8 h9 h10 h11
  refine ⟨.fz (.lst sp), y8, y9, y10, y11, rfl, g8, g9, g10, g11, ?_⟩
  have hi : ∀ s4 s5 s6 : Sl, mItems (mVar 7) (V s0 s1 s2 s3 s4 s5 s6 (.ow (.lst sp)) s8 s9 s10 s11 s12) = .ok sp (V s0 s1 s2 s3 s4 s5 s6 (.fz (.lst sp)) s8 s9 s10 s11 s12) := fun s4 s5 s6 => by simp [V]
  unfold s_law_10
  rw [for_run (hi _ _ _)]
  exact e
theorem lw_c2 {ns : List Int} {k : Nat} {a b : Int} {s2 s3 s4 s5 s6 s7 s8 s9 s10 s11 s12 : Sl} (e2 : F_law_feed [.fz (.scr ns), .fz (.int (k : Int))] = .ok true (feed a b) []) (h2 : isBo s2 = false) : s_law_2 (V (.fz (.scr ns)) (.fz (.int (k : Int))) s2 s3 s4 s5 s6 s7 s8 s9 s10 s11 s12) = .ok .nx (V (.fz (.scr ns)) (.fz (.int (k : Int))) (.ow (feed a b)) s3 s4 s5 s6 s7 s8 s9 s10 s11 s12) := by
  generalize feed a b = f at *
  unfold s_law_2 V
  simp [e2, h2]
theorem lw_c3 {a b a1 b1 a2 b2 j c : Int} {G : D} {s0 s1 s3 s4 s5 s6 s7 s8 s9 s10 s11 s12 : Sl} (cj : 1 + j = c) (e3 : F_law_take [.bo (feed a b), .fz (.int 12)] = .ok false (.int j) [feed a1 b1]) (e4 : F_law_records [.bo (feed a1 b1), .fz (.int c)] = .ok true G [feed a2 b2]) (h3 : isBo s3 = false) : s_law_3 (V s0 s1 (.ow (feed a b)) s3 s4 s5 s6 s7 s8 s9 s10 s11 s12) = .ok .nx (V s0 s1 (.ow (feed a2 b2)) (.ow G) s4 s5 s6 s7 s8 s9 s10 s11 s12) := by
  generalize feed a b = f at *
  generalize feed a1 b1 = f1 at *
  generalize feed a2 b2 = f2 at *
  unfold s_law_3 V
  simp [e3, cj, e4, h3]
theorem lw_c4 {g A : D} {s0 s1 s2 s4 s5 s6 s7 s8 s9 s10 s11 s12 : Sl} (mk : ∀ (φ : M (List AV)) (ρ ρ' : DL.Env), φ ρ = .ok [.fz g] ρ' → mMake "Archive" 2 F_Archive_init φ ρ = .ok (.ow A) ρ') (h4 : isBo s4 = false) (hg : ∃ l, g = .lst l) : s_law_4 (V s0 s1 s2 (.ow g) s4 s5 s6 s7 s8 s9 s10 s11 s12) = .ok .nx (V s0 s1 s2 (.fz g) (.ow A) s5 s6 s7 s8 s9 s10 s11 s12) := by
  obtain ⟨l, rfl⟩ := hg
  have ar : mRc .fz (mVar 3) mNil (V s0 s1 s2 (.ow (.lst l)) s4 s5 s6 s7 s8 s9 s10 s11 s12) = .ok [.fz (.lst l)] (V s0 s1 s2 (.fz (.lst l)) s4 s5 s6 s7 s8 s9 s10 s11 s12) := by simp [V]
  have m := mk _ _ _ ar
  unfold s_law_4
  rw [mAsg_app, bnd_ok m]
  simp [V, h4]
theorem lw_c5 {A : D} {t : Str} {s0 s1 s2 s3 s5 s6 s7 s8 s9 s10 s11 s12 : Sl} (sh : F_show [.fz A] = .ok false (.str t) []) (h5 : isBo s5 = false) : s_law_5 (V s0 s1 s2 s3 (.ow A) s5 s6 s7 s8 s9 s10 s11 s12) = .ok .nx (V s0 s1 s2 s3 (.fz A) (.fz (.str t)) s6 s7 s8 s9 s10 s11 s12) := by
  unfold s_law_5 V
  simp [sh, h5]
theorem lw_chain {p1 p2 p3 p4 p5 p6 p7 p8 : M Ctl} {r1 r2 r3 r4 r5 r6 r7 r8 r9 : DL.Env} (l2 : p1 r1 = .ok .nx r2) (l3 : p2 r2 = .ok .nx r3) (l4 : p3 r3 = .ok .nx r4) (l5 : p4 r4 = .ok .nx r5) (l6 : p5 r5 = .ok .nx r6) (l7 : p6 r6 = .ok .nx r7) (l8 : p7 r7 = .ok .nx r8) (l9 : p8 r8 = .ok .nx r9) :
    mSeq p1 (mSeq p2 (mSeq p3 (mSeq p4 (mSeq p5 (mSeq p6 (mSeq p7 p8)))))) r1 = .ok .nx r9 := (seq_nx l2).trans ((seq_nx l3).trans ((seq_nx l4).trans ((seq_nx l5).trans ((seq_nx l6).trans ((seq_nx l7).trans ((seq_nx l8).trans l9))))))
theorem law_turn (ns : List Int) {k : Nat} (hk : k < 3) {s1 s2 s3 s4 s5 s6 s7 s8 s9 s10 s11 s12 : Sl} (h1 : nb s1) (h2 : nb s2) (h3 : nb s3) (h4 : nb s4) (h5 : nb s5) (h6 : nb s6) (h7 : nb s7) (h8 : nb s8) (h9 : nb s9) (h10 : nb s10) (h11 : nb s11) (h12 : nb s12) :
    ∃ y1 y2 y3 y4 y5 y6 y7 y8 y9 y10 y11 y12, nb y1 ∧ nb y2 ∧ nb y3 ∧ nb y4 ∧ nb y5 ∧ nb y6 ∧ nb y7 ∧ nb y8 ∧ nb y9 ∧ nb y10 ∧ nb y11 ∧ nb y12 ∧ ∃ ρ1, bindT (.nm 1) (.int (k : Int)) (V (.fz (.scr ns)) s1 s2 s3 s4 s5 s6 s7 s8 s9 s10 s11 s12) = .ok () ρ1 ∧
      lawBody ρ1 = .ok .nx (V (.fz (.scr ns)) y1 y2 y3 y4 y5 y6 y7 y8 y9 y10 y11 y12) := by
  unfold nb at *
  obtain ⟨a, b, e2⟩ := feed_run ns k hk
  obtain ⟨r, a1, b1, r0, r1, e3⟩ := take_run a b 12 (by omega) (by omega)
  obtain ⟨j, rfl⟩ : ∃ j : Nat, r = (j : Int) := ⟨r.toNat, by omega⟩
  obtain ⟨rs, v, rl, a2, b2, e4⟩ := records_draw a1 b1 (j + 1) (by omega)
  have hl : rs.length ≤ 12 := by omega
  have hne : rs ≠ [] := by intro h; rw [h] at rl; cases rl
  obtain ⟨K, mk⟩ := make_run v (by omega)
  have sh := show_run v hl K
  have t5 := txt_len v hl
  have cj : (1 : Int) + (j : Int) = ((j + 1 : Nat) : Int) := by omega
  have bd : bindT (.nm 1) (.int (k : Int)) (V (.fz (.scr ns)) s1 s2 s3 s4 s5 s6 s7 s8 s9 s10 s11 s12) = .ok () (V (.fz (.scr ns)) (.fz (.int (k : Int))) s2 s3 s4 s5 s6 s7 s8 s9 s10 s11 s12) := by simp [V, h1]
  have l2 := lw_c2 (s3 := s3) (s4 := s4) (s5 := s5) (s6 := s6) (s7 := s7) (s8 := s8) (s9 := s9) (s10 := s10) (s11 := s11) (s12 := s12) e2 h2
  have l3 := lw_c3 (s0 := .fz (.scr ns)) (s1 := .fz (.int (k : Int))) (s4 := s4) (s5 := s5) (s6 := s6) (s7 := s7) (s8 := s8) (s9 := s9) (s10 := s10) (s11 := s11) (s12 := s12) cj e3 e4 h3
  have l4 := lw_c4 (s0 := .fz (.scr ns)) (s1 := .fz (.int (k : Int))) (s2 := .ow (feed a2 b2)) (s5 := s5) (s6 := s6) (s7 := s7) (s8 := s8) (s9 := s9) (s10 := s10) (s11 := s11) (s12 := s12) mk h4 ⟨_, rfl⟩
  have l5 := lw_c5 (s0 := .fz (.scr ns)) (s1 := .fz (.int (k : Int))) (s2 := .ow (feed a2 b2)) (s3 := .fz (.lst (rs.map Rc.d))) (s6 := s6) (s7 := s7) (s8 := s8) (s9 := s9) (s10 := s10) (s11 := s11) (s12 := s12) sh h5
  have l6 := law6 (s0 := .fz (.scr ns)) (s1 := .fz (.int (k : Int))) (s2 := .ow (feed a2 b2)) (s5 := .fz (.str (txt rs))) (s7 := s7) (s8 := s8) (s9 := s9) (s11 := s11) (s12 := s12) (K := K) v hl h6 h10
  obtain ⟨sp, a3, b3, y12, p1, p2, p3, l7⟩ := law7 (z := txt rs) t5 (s0 := .fz (.scr ns)) (s1 := .fz (.int (k : Int))) (s3 := .fz (.lst (rs.map Rc.d))) (s4 := .fz (arc (rs.map Rc.d) K)) (s6 := .ow (.lst (E rs))) (s7 := s7) (s8 := s8) (s9 := s9) (s10 := rsS s10) (s11 := s11) (s12 := s12) a2 b2 h7 h12
  obtain ⟨sp', y8, q1, q2, q3, l8⟩ := law8 (s0 := .fz (.scr ns)) (s1 := .fz (.int (k : Int))) (s2 := .ow (feed a3 b3)) (s3 := .fz (.lst (rs.map Rc.d))) (s4 := .fz (arc (rs.map Rc.d) K)) (s5 := .fz (.str (txt rs))) (s9 := s9) (s10 := rsS s10) (s11 := s11) (s12 := y12) hne hl p1 p2 h8
  have hr10 : isBo (rsS s10) = false := by cases s10 <;> rfl
  obtain ⟨z7, z8, z9, z10, z11, g7, g8, g9, g10, g11, l10⟩ := law10 (s0 := .fz (.scr ns)) (s1 := .fz (.int (k : Int))) (s2 := .ow (feed a3 b3)) (s3 := .fz (.lst (rs.map Rc.d))) (K := K) (s12 := y12) v hl q1 q3 h9 hr10 h11
  exact ⟨_, _, _, _, _, _, z7, z8, z9, z10, z11, y12, rfl, rfl, rfl, rfl, rfl, rfl, g7, g8, g9, g10, g11, p3, _, bd, lw_chain l2 l3 l4 l5 l6 l7 l8 l10⟩
theorem law_loop (ns : List Int) : ∀ (n : Nat) (k : Nat) (s1 s2 s3 s4 s5 s6 s7 s8 s9 s10 s11 s12 : Sl), k + n ≤ 3 → nb s1 → nb s2 → nb s3 → nb s4 → nb s5 → nb s6 → nb s7 → nb s8 → nb s9 → nb s10 → nb s11 → nb s12 →
    ∃ ρ', loopF (.nm 1) lawBody ((List.range' k n).map fun j => D.int ((j : Nat) : Int)) (V (.fz (.scr ns)) s1 s2 s3 s4 s5 s6 s7 s8 s9 s10 s11 s12) = .ok .nx ρ'
  | 0, k, s1, s2, s3, s4, s5, s6, s7, s8, s9, s10, s11, s12, _, _, _, _, _, _, _, _, _, _, _, _, _ => ⟨_, rfl⟩
  | n + 1, k, s1, s2, s3, s4, s5, s6, s7, s8, s9, s10, s11, s12, hk, h1, h2, h3, h4, h5, h6, h7, h8, h9, h10, h11, h12 => by
    obtain ⟨y1, y2, y3, y4, y5, y6, y7, y8, y9, y10, y11, y12, g1, g2, g3, g4, g5, g6, g7, g8, g9, g10, g11, g12, ρ1, b, e⟩ := law_turn ns (k := k) (by omega) h1 h2 h3 h4 h5 h6 h7 h8 h9 h10 h11 h12
    obtain ⟨ρ', r⟩ := law_loop ns n (k + 1) y1 y2 y3 y4 y5 y6 y7 y8 y9 y10 y11 y12 (by omega) g1 g2 g3 g4 g5 g6 g7 g8 g9 g10 g11 g12
    refine ⟨ρ', ?_⟩
    rw [List.range'_succ, List.map_cons, loop_cons b (.inl e)]
    exact r
theorem rangeD_r (m : Nat) : rangeD 0 m = (List.range' 0 m).map fun j => D.int ((j : Nat) : Int) := by
  unfold rangeD
  rw [List.range_eq_range']
  refine List.map_congr_left fun j _ => ?_
  rw [Int.zero_add]
theorem law_it (ns : List Int) {t : List Sl} : ∃ m : Nat, m ≤ 3 ∧ mIt range1 (mCons (mCall fMax (mCons (mC (.int 1)) (mCons (mCall fMin (mCons (mC (.int 2)) (mCons (mCall fLen (mCons (mVar 0) mNil)) mNil))) mNil))) mNil) (.fz (.scr ns) :: t) = .ok (rangeD 0 m) (.fz (.scr ns) :: t) := by
  have hmin : ∃ j : Nat, j ≤ 3 ∧ (if ((ns.length : Int) < 2) then (ns.length : Int) else 2) = (j : Int) := by
    by_cases h : ((ns.length : Int) < 2)
    · exact ⟨ns.length, by omega, by rw [if_pos h]⟩
    · exact ⟨2, by omega, by rw [if_neg h]; rfl⟩
  obtain ⟨j, hj, ej⟩ := hmin
  have hmax : ∃ m : Nat, m ≤ 3 ∧ (if (j : Int) > 1 then (j : Int) else 1) = (m : Int) := by
    by_cases h : (j : Int) > 1
    · exact ⟨j, hj, by rw [if_pos h]⟩
    · exact ⟨1, by omega, by rw [if_neg h]; rfl⟩
  obtain ⟨m, hm, em⟩ := hmax
  have f1 : fMin [.int 2, .int (ns.length : Int)] = some (.fz (.int (j : Int))) := by rw [fMin_i, ej]
  have f2 : fMax [.int 1, .int (j : Int)] = some (.fz (.int (m : Int))) := by rw [fMax_i, em]
  refine ⟨m, hm, ?_⟩
  have h : mCons (mCall fMax (mCons (mC (.int 1)) (mCons (mCall fMin (mCons (mC (.int 2)) (mCons (mCall fLen (mCons (mVar 0) mNil)) mNil))) mNil))) mNil (.fz (.scr ns) :: t) = .ok [.fz (.int (m : Int))] (.fz (.scr ns) :: t) := by
    simp [f1, f2, -fMin_i, -fMax_i]
  have h4 : rdAll [.fz (.int (m : Int))] (.fz (.scr ns) :: t) = .ok [.int (m : Int)] (.fz (.scr ns) :: t) := by simp
  exact range_run h h4 (by omega)
theorem math (ns : List Int) (h : ns.length ≤ 63) : ∃ bs, F_law [.fz (.scr ns)] = .ok false (.bl true) bs := by
  obtain ⟨m, hm, it⟩ := law_it ns (t := [.un, .un, .un, .un, .un, .un, .un, .un, .un, .un, .un, .un])
  obtain ⟨ρ', e⟩ := law_loop ns m 0 .un .un .un .un .un .un .un .un .un .un .un .un (by omega) rfl rfl rfl rfl rfl rfl rfl rfl rfl rfl rfl rfl
  rw [← rangeD_r] at e
  have l1 : s_law_1 (V (.fz (.scr ns)) .un .un .un .un .un .un .un .un .un .un .un .un) = .ok .nx ρ' := by
    unfold s_law_1
    rw [for_run it]
    exact e
  have l17 : s_law_17 ρ' = .ok (.rt (.fz (.bl true))) ρ' := rfl
  have e : φ_law [.fz (.scr ns), .un, .un, .un, .un, .un, .un, .un, .un, .un, .un, .un, .un] = .ok (.rt (.fz (.bl true))) ρ' := (seq_nx l1).trans l17
  exact ⟨_, runB_fz (N := 13) (ks := [.fz (.scr ns)]) e⟩
end LW

namespace LW
open PySem PySem.Spec PyProof.Rows L2 DL
/-! the walk -/
section
variable {P : Program} {w : World} {K : PySem.W.Frag} {mg : Str → Option Value} {base : Heap}
abbrev FnP (K : PySem.W.Frag) (x q : Str) (s : Stmt) (f : Addr) (fd : FuncData) : Prop := FunD K x q (defArgs s) (defBody s) (defScope s) [] [] f fd
theorem sc_law_feed : FnScope ["script", "k", "cell", "digits", "state"] ["script", "k"] (defScope (top 41)) := ⟨rfl, rfl, rfl, by decide +kernel, rfl, by decide +kernel, by decide +kernel⟩
theorem b_law_feed {f : Addr} {fd : FuncData} (F : FnP K "_law_feed" "_law_feed" (top 41) f fd) (hs : ∀ X : Cx, X.K = K → X.mg = mg → X.w = w → Hs K mg w X)  : FnG P w K mg base 1 f fd ["script", "k"] (spD K mg 2 F_law_feed) :=
  fn_Dd (N := ["script", "k", "cell", "digits", "state"]) F sc_law_feed fun cdv A outer s H E b fit bd => by
  have room := bd.room
  have gd := bd.gd
  have hu := room.units
  have nd := sc_law_feed.nd
  have hs : ∀ X : Cx, X.K = K → X.mg = mg → X.w = w → Hs K mg w X := hs
  exact (dss_cons (ds_set nd (i := 2) rfl (by first | exact .inl rfl | exact .inr rfl) (de_if (dt_cmp fit (od_lt) (de_var (pv 1)) (de_callB fit cd_len (hs _ rfl rfl rfl).n_len (by kernel_rfl) (da_cons (de_var (pv 0)) da_nil)) (nomark _)) (de_sub fit hu (de_var (pv 0)) (de_var (pv 1))) (de_op fit od_add (de_op fit od_mul de_int (de_var (pv 1))) de_int)))
   (dss_cons (ds_set nd (i := 3) rfl (by first | exact .inl rfl | exact .inr rfl) (de_callB fit (cd_max rfl) (hs _ rfl rfl rfl).n_max (by kernel_rfl) (da_cons de_int (da_cons (de_op fit od_sub (de_callB fit cd_abs (hs _ rfl rfl rfl).n_abs (by kernel_rfl) (da_cons (de_var (pv 2)) da_nil)) (de_op fit od_pow de_int de_int)) da_nil))))
   (dss_cons (ds_set nd (i := 4) rfl (by first | exact .inl rfl | exact .inr rfl) (de_op fit od_mod (de_callTy fit cd_int (hs _ rfl rfl rfl).n_int (by kernel_rfl) (da_cons (de_op fit od_add (de_op fit od_add (de_op fit od_mul (de_var (pv 2)) de_int) (de_op fit od_mul de_int (de_var (pv 1)))) de_int) da_nil)) de_int))
   (dss_one (ds_ret (de_lst (da_cons (de_var (pv 3)) (da_cons (de_var (pv 4)) da_nil))))))))
theorem sc_law_take : FnScope ["feed", "many", "digit"] ["feed", "many"] (defScope (top 42)) := ⟨rfl, rfl, rfl, by decide +kernel, rfl, by decide +kernel, by decide +kernel⟩
theorem b_law_take {f : Addr} {fd : FuncData} (F : FnP K "_law_take" "_law_take" (top 42) f fd) (hs : ∀ X : Cx, X.K = K → X.mg = mg → X.w = w → Hs K mg w X)  : FnG P w K mg base 1 f fd ["feed", "many"] (spD K mg 2 F_law_take) :=
  fn_Dd (N := ["feed", "many", "digit"]) F sc_law_take fun cdv A outer s H E b fit bd => by
  have room := bd.room
  have gd := bd.gd
  have hu := room.units
  have nd := sc_law_take.nd
  have hs : ∀ X : Cx, X.K = K → X.mg = mg → X.w = w → Hs K mg w X := hs
  exact (dss_cons (ds_if (dt_cmp fit (od_gt) (de_sub fit hu (de_var (pv 0)) de_int) de_int (nomark _)) (dss_cons (ds_set nd (i := 2) rfl (by first | exact .inl rfl | exact .inr rfl) (de_op fit od_mod (de_callTy fit cd_int (hs _ rfl rfl rfl).n_int (by kernel_rfl) (da_cons (de_sub fit hu (de_var (pv 0)) de_int) da_nil)) (de_var (pv 1))))
   (dss_cons (ds_asgM (de_op fit od_div (de_sub fit hu (de_var (pv 0)) de_int) (de_var (pv 1))) (dgm_sub fit hu (de_var (pv 0)) de_int))
   (dss_one (ds_ret (de_var (pv 2)))))) dss_nil)
   (dss_cons (ds_asgM (de_op fit od_mod (de_callTy fit cd_int (hs _ rfl rfl rfl).n_int (by kernel_rfl) (da_cons (de_op fit od_add (de_op fit od_mul (de_sub fit hu (de_var (pv 0)) de_int) de_int) de_int) da_nil)) de_int) (dgm_sub fit hu (de_var (pv 0)) de_int))
   (dss_one (ds_ret (de_op fit od_mod (de_callTy fit cd_int (hs _ rfl rfl rfl).n_int (by kernel_rfl) (da_cons (de_op fit od_div (de_sub fit hu (de_var (pv 0)) de_int) de_int) da_nil)) (de_var (pv 1)))))))
theorem sc_law_pick : FnScope ["feed", "some"] ["feed", "some"] (defScope (top 43)) := ⟨rfl, rfl, rfl, by decide +kernel, rfl, by decide +kernel, by decide +kernel⟩
theorem b_law_pick {f : Addr} {fd : FuncData} (F : FnP K "_law_pick" "_law_pick" (top 43) f fd) (hs : ∀ X : Cx, X.K = K → X.mg = mg → X.w = w → Hs K mg w X) (g_law_take : Gf P w K mg base 1 "_law_take" 2 F_law_take) : FnG P w K mg base 2 f fd ["feed", "some"] (spD K mg 2 F_law_pick) :=
  fn_Dd (N := ["feed", "some"]) F sc_law_pick fun cdv A outer s H E b fit bd => by
  have room := bd.room
  have gd := bd.gd
  have hu := room.units
  have nd := sc_law_pick.nd
  have hs : ∀ X : Cx, X.K = K → X.mg = mg → X.w = w → Hs K mg w X := hs
  exact (dss_one (ds_ret (de_sub fit hu (de_var (pv 1)) (de_call fit bd.tk (g_law_take.cl room (by omega) gd) (dr_cons .keep (de_var (pv 0)) (fun _ => (dr_cons .fz (de_callB (fitA fit) cd_len (hs _ rfl rfl rfl).n_len (by kernel_rfl) (da_cons (de_var (pv 1)) da_nil)) (fun _ => dr_nil))))))))
theorem sc_law_names : FnScope [] [] (defScope (top 44)) := ⟨rfl, rfl, rfl, by decide +kernel, rfl, by decide +kernel, by decide +kernel⟩
theorem b_law_names {f : Addr} {fd : FuncData} (F : FnP K "_law_names" "_law_names" (top 44) f fd) (hs : ∀ X : Cx, X.K = K → X.mg = mg → X.w = w → Hs K mg w X)  : FnG P w K mg base 1 f fd [] (spD K mg 0 F_law_names) :=
  fn_Dd (N := []) F sc_law_names fun cdv A outer s H E b fit bd => by
  have room := bd.room
  have gd := bd.gd
  have hu := room.units
  have nd := sc_law_names.nd
  have hs : ∀ X : Cx, X.K = K → X.mg = mg → X.w = w → Hs K mg w X := hs
  exact (dss_one (ds_ret (de_lst (da_cons de_str (da_cons de_str (da_cons de_str (da_cons de_str (da_cons de_str da_nil))))))))
theorem sc_law_thing : FnScope ["feed", "some"] ["feed"] (defScope (top 47)) := ⟨rfl, rfl, rfl, by decide +kernel, rfl, by decide +kernel, by decide +kernel⟩
theorem b_law_thing {f : Addr} {fd : FuncData} (F : FnP K "_law_thing" "_law_thing" (top 47) f fd) (hs : ∀ X : Cx, X.K = K → X.mg = mg → X.w = w → Hs K mg w X) (g_law_pick : Gf P w K mg base 2 "_law_pick" 2 F_law_pick) : FnG P w K mg base 3 f fd ["feed"] (spD K mg 1 F_law_thing) :=
  fn_Dd (N := ["feed", "some"]) F sc_law_thing fun cdv A outer s H E b fit bd => by
  have room := bd.room
  have gd := bd.gd
  have hu := room.units
  have nd := sc_law_thing.nd
  have hs : ∀ X : Cx, X.K = K → X.mg = mg → X.w = w → Hs K mg w X := hs
  exact (dss_cons (ds_set nd (i := 1) rfl (by first | exact .inl rfl | exact .inr rfl) (de_lst (da_cons (de_tup (da_cons de_str da_nil)) (da_cons (de_tup (da_cons de_str (da_cons de_str da_nil))) (da_cons (de_tup (da_cons de_str (da_cons de_str da_nil))) (da_cons (de_tup (da_cons de_str (da_cons de_str da_nil))) (da_cons (de_tup (da_cons de_str (da_cons de_str da_nil))) (da_cons (de_tup (da_cons de_str (da_cons de_str da_nil))) da_nil))))))))
   (dss_one (ds_ret (de_call fit bd.tk (g_law_pick.cl room (by omega) gd) (dr_cons .keep (de_var (pv 0)) (fun _ => (dr_cons .fz (de_var (pv 1)) (fun _ => dr_nil))))))))
theorem sc_law_back : FnScope ["records", "number", "name", "at"] ["records", "number", "name"] (defScope (top 45)) := ⟨rfl, rfl, rfl, by decide +kernel, rfl, by decide +kernel, by decide +kernel⟩
theorem b_law_back {f : Addr} {fd : FuncData} (F : FnP K "_law_back" "_law_back" (top 45) f fd) (hs : ∀ X : Cx, X.K = K → X.mg = mg → X.w = w → Hs K mg w X)  : FnG P w K mg base 1 f fd ["records", "number", "name"] (spD K mg 3 F_law_back) :=
  fn_Dd (N := ["records", "number", "name", "at"]) F sc_law_back fun cdv A outer s H E b fit bd => by
  have room := bd.room
  have gd := bd.gd
  have hu := room.units
  have nd := sc_law_back.nd
  have hs : ∀ X : Cx, X.K = K → X.mg = mg → X.w = w → Hs K mg w X := hs
  exact (dss_one (ds_ret (de_comp [("at", 3)] fit nd (di_range1 (hs _ rfl rfl rfl).n_range (da_cons (de_op fit od_sub (de_var (pv 1)) de_int) da_nil)) (blk_sc (N' := ["records", "number", "name", "at"]) (sc' := (defScope (top 45))) rfl rfl (by show BlkOk _ _ _ [("at", 3)]; exact ⟨rfl, by decide +kernel, by decide +kernel, by decide +kernel, by decide +kernel⟩)) (by decide) (fun _ _ _ _ _ _ fit1 => (dg_name nd rfl (by first | exact .inl rfl | exact .inr rfl))) (fun _ _ _ _ _ => dts_one (fun _ fit1 => (dw_pt (dw_and (dt_cmp fit1 (od_eq hu) (de_sub fit1 hu (de_sub fit1 hu (de_var (pv 0)) (de_var (pv 3))) de_int) de_str (nomark _)) (dw_and1 (dt_cmp fit1 (od_eq hu) (de_sub fit1 hu (de_sub fit1 hu (de_var (pv 0)) (de_var (pv 3))) de_int) (de_var (pv 2)) (nomark _))))))) (fun _ _ _ _ _ _ fit1 => (de_op fit1 od_add (de_var (pv 3)) de_int)))))
theorem sc_law_items : FnScope ["feed", "records", "number", "found", "name", "heads", "at"] ["feed", "records"] (defScope (top 46)) := ⟨rfl, rfl, rfl, by decide +kernel, rfl, by decide +kernel, by decide +kernel⟩
theorem b_law_items {f : Addr} {fd : FuncData} (F : FnP K "_law_items" "_law_items" (top 46) f fd) (hs : ∀ X : Cx, X.K = K → X.mg = mg → X.w = w → Hs K mg w X) (g_law_names : Gf P w K mg base 1 "_law_names" 0 F_law_names) (g_law_back : Gf P w K mg base 1 "_law_back" 3 F_law_back) (g_law_take : Gf P w K mg base 1 "_law_take" 2 F_law_take) (g_law_pick : Gf P w K mg base 2 "_law_pick" 2 F_law_pick) : FnG P w K mg base 3 f fd ["feed", "records"] (spD K mg 2 F_law_items) :=
  fn_Dd (N := ["feed", "records", "number", "found", "name", "heads", "at"]) F sc_law_items fun cdv A outer s H E b fit bd => by
  have room := bd.room
  have gd := bd.gd
  have hu := room.units
  have nd := sc_law_items.nd
  have hs : ∀ X : Cx, X.K = K → X.mg = mg → X.w = w → Hs K mg w X := hs
  exact (dss_cons (ds_parT (is := [2, 3]) rfl (dr_cons .unsl (de_op fit od_add (de_callB fit cd_len (hs _ rfl rfl rfl).n_len (by kernel_rfl) (da_cons (de_var (pv 1)) da_nil)) de_int) (fun _ => (dr_cons .unsl (de_lst da_nil) (fun _ => dr_nil)))) (pgs_cons (pg_name nd rfl (by first | exact .inl rfl | exact .inr rfl)) (pgs_cons (pg_name nd rfl (by first | exact .inl rfl | exact .inr rfl)) pgs_nil)) rfl)
   (dss_cons (ds_for bd.hp (di_seq fit (de_callB fit (cd_sorted rfl) (hs _ rfl rfl rfl).n_sorted (by kernel_rfl) (da_cons (de_call0 fit bd.tk (g_law_names.cl room (by omega) gd)) da_nil))) (dg_name nd rfl (by first | exact .inl rfl | exact .inr rfl)) (dss_cons (ds_set nd (i := 5) rfl (by first | exact .inl rfl | exact .inr rfl) (de_call fit bd.tk (g_law_back.cl room (by omega) gd) (dr_cons .keep (de_var (pv 1)) (fun _ => (dr_cons .fz (de_var (pv 2)) (fun _ => (dr_cons .fz (de_var (pv 4)) (fun _ => dr_nil))))))))
   (dss_one (ds_if (dw_pt (dw_and (dt_cmp fit (od_neX hu) (de_var (pv 5)) (de_lst da_nil) (nomark _)) (dw_and1 (dt_cmp fit (od_gt) (de_call fit bd.tk (g_law_take.cl room (by omega) gd) (dr_cons .keep (de_var (pv 0)) (fun _ => (dr_cons .fz de_int (fun _ => dr_nil))))) de_int (nomark _))))) (dss_one (ds_expr (de_u fit PySem.F.plainAttrs_list PySem.F.slot_list_append PySem.F.type_list_append mu_append (de_var (pv 3)) (da_cons (de_tup (da_cons (de_var (pv 4)) (da_cons (de_call fit bd.tk (g_law_pick.cl room (by omega) gd) (dr_cons .keep (de_var (pv 0)) (fun _ => (dr_cons .fz (de_op (fitA fit) od_add (de_lst (da_cons de_int da_nil)) (de_comp [("at", 6)] (fitA fit) nd (di_seq (fitA fit) (de_op (fitA fit) od_add (de_var (pv 5)) (de_slice (fitA fit) (de_var (pv 5)) (do_some (de_un (fitA fit) ud_neg de_int)) do_none))) (blk_sc (N' := ["feed", "records", "number", "found", "name", "heads", "at"]) (sc' := (defScope (top 46))) rfl rfl (by show BlkOk _ _ _ [("at", 6)]; exact ⟨rfl, by decide +kernel, by decide +kernel, by decide +kernel, by decide +kernel⟩)) (by decide) (fun _ _ _ _ _ _ fit2 => (dg_name nd rfl (by first | exact .inl rfl | exact .inr rfl))) (fun _ _ _ _ _ => dts_nil) (fun _ _ _ _ _ _ fit2 => (de_op fit2 od_sub (de_var (pv 2)) (de_var (pv 6)))))) (fun _ => dr_nil))))) da_nil))) da_nil)))) dss_nil))))
   (dss_one (ds_ret (de_callTy fit cd_tuple (hs _ rfl rfl rfl).n_tuple (by kernel_rfl) (da_cons (de_var (pv 3)) da_nil))))))
theorem sc_law_record : FnScope ["feed", "records", "case", "name"] ["feed", "records"] (defScope (top 48)) := ⟨rfl, rfl, rfl, by decide +kernel, rfl, by decide +kernel, by decide +kernel⟩
theorem b_law_record {f : Addr} {fd : FuncData} (F : FnP K "_law_record" "_law_record" (top 48) f fd) (hs : ∀ X : Cx, X.K = K → X.mg = mg → X.w = w → Hs K mg w X) (g_law_take : Gf P w K mg base 1 "_law_take" 2 F_law_take) (g_law_pick : Gf P w K mg base 2 "_law_pick" 2 F_law_pick) (g_law_names : Gf P w K mg base 1 "_law_names" 0 F_law_names) (g_law_thing : Gf P w K mg base 3 "_law_thing" 1 F_law_thing) (g_law_items : Gf P w K mg base 3 "_law_items" 2 F_law_items) : FnG P w K mg base 4 f fd ["feed", "records"] (spD K mg 2 F_law_record) :=
  fn_Dd (N := ["feed", "records", "case", "name"]) F sc_law_record fun cdv A outer s H E b fit bd => by
  have room := bd.room
  have gd := bd.gd
  have hu := room.units
  have nd := sc_law_record.nd
  have hs : ∀ X : Cx, X.K = K → X.mg = mg → X.w = w → Hs K mg w X := hs
  exact (dss_cons (ds_par rfl nd (i := 2) (j := 3) rfl rfl (by decide) rfl rfl (dr_cons .unsl (de_call fit bd.tk (g_law_take.cl room (by omega) gd) (dr_cons .keep (de_var (pv 0)) (fun _ => (dr_cons .fz de_int (fun _ => dr_nil))))) (fun _ => (dr_cons .unsl (de_call (fitA fit) bd.tk (g_law_pick.cl room (by omega) gd) (dr_cons .keep (de_var (pv 0)) (fun _ => (dr_cons .fz (de_call0 (fitA (fitA fit)) bd.tk (g_law_names.cl room (by omega) gd)) (fun _ => dr_nil))))) (fun _ => dr_nil)))) (by rfl))
   (dss_cons (ds_if (dt_cmp fit (od_lt) (de_var (pv 2)) de_int (nomark _)) (dss_one (ds_ret (de_tup (da_cons de_str (da_cons (de_var (pv 3)) (da_cons (de_call fit bd.tk (g_law_thing.cl room (by omega) gd) (dr_cons .keep (de_var (pv 0)) (fun _ => dr_nil))) da_nil)))))) dss_nil)
   (dss_one (ds_ret (de_if (dt_cmp fit (od_eq hu) (de_var (pv 2)) de_int (nomark _)) (de_tup (da_cons de_str (da_cons (de_var (pv 3)) da_nil))) (de_tup (da_cons de_str (da_cons (de_call fit bd.tk (g_law_items.cl room (by omega) gd) (dr_cons .keep (de_var (pv 0)) (fun _ => (dr_cons .keep (de_var (pv 1)) (fun _ => dr_nil))))) da_nil))))))))
theorem sc_law_records : FnScope ["feed", "many", "found", "turn"] ["feed", "many"] (defScope (top 49)) := ⟨rfl, rfl, rfl, by decide +kernel, rfl, by decide +kernel, by decide +kernel⟩
theorem b_law_records {f : Addr} {fd : FuncData} (F : FnP K "_law_records" "_law_records" (top 49) f fd) (hs : ∀ X : Cx, X.K = K → X.mg = mg → X.w = w → Hs K mg w X) (g_law_record : Gf P w K mg base 4 "_law_record" 2 F_law_record) : FnG P w K mg base 5 f fd ["feed", "many"] (spD K mg 2 F_law_records) :=
  fn_Dd (N := ["feed", "many", "found", "turn"]) F sc_law_records fun cdv A outer s H E b fit bd => by
  have room := bd.room
  have gd := bd.gd
  have hu := room.units
  have nd := sc_law_records.nd
  have hs : ∀ X : Cx, X.K = K → X.mg = mg → X.w = w → Hs K mg w X := hs
  exact (dss_cons (ds_set nd (i := 2) rfl (by first | exact .inl rfl | exact .inr rfl) (de_lst da_nil))
   (dss_cons (ds_for bd.hp (di_range1 (hs _ rfl rfl rfl).n_range (da_cons (de_var (pv 1)) da_nil)) (dg_name nd rfl (by first | exact .inl rfl | exact .inr rfl)) (dss_one (ds_expr (de_u fit PySem.F.plainAttrs_list PySem.F.slot_list_append PySem.F.type_list_append mu_append (de_var (pv 2)) (da_cons (de_call fit bd.tk (g_law_record.cl room (by omega) gd) (dr_cons .keep (de_var (pv 0)) (fun _ => (dr_cons .keep (de_var (pv 2)) (fun _ => dr_nil))))) da_nil)))))
   (dss_one (ds_ret (de_var (pv 2))))))
theorem sc_is_string : FnScope ["value", "most", "sign"] ["value", "most"] (defScope (top 13)) := ⟨rfl, rfl, rfl, by decide +kernel, rfl, by decide +kernel, by decide +kernel⟩
theorem b_is_string {f : Addr} {fd : FuncData} (F : FnP K "is_string" "is_string" (top 13) f fd) (hs : ∀ X : Cx, X.K = K → X.mg = mg → X.w = w → Hs K mg w X)  : FnG P w K mg base 1 f fd ["value", "most"] (spD K mg 2 F_is_string) :=
  fn_Dd (N := ["value", "most", "sign"]) F sc_is_string fun cdv A outer s H E b fit bd => by
  have room := bd.room
  have gd := bd.gd
  have hu := room.units
  have nd := sc_is_string.nd
  have hs : ∀ X : Cx, X.K = K → X.mg = mg → X.w = w → Hs K mg w X := hs
  exact (dss_one (ds_ret (de_and (de_isi fit (isi_str) (.ty "str") (pe_bltn (x := "str") rfl (hs _ rfl rfl rfl).n_str (by kernel_rfl) rfl) (de_var (pv 0)) (hs _ rfl rfl rfl).n_isinstance) (de_and (de_cmp fit (od_le) (de_callB fit cd_len (hs _ rfl rfl rfl).n_len (by kernel_rfl) (da_cons (de_var (pv 0)) da_nil)) (de_var (pv 1)) (nomark _)) (de_one (de_callB fit (cd_all rfl) (hs _ rfl rfl rfl).n_all (by kernel_rfl) (da_cons (de_comp [("sign", 2)] fit nd (di_seq fit (de_var (pv 0))) (blk_sc (N' := ["value", "most", "sign"]) (sc' := (defScope (top 13))) rfl rfl (by show BlkOk _ _ _ [("sign", 2)]; exact ⟨rfl, by decide +kernel, by decide +kernel, by decide +kernel, by decide +kernel⟩)) (by decide) (fun _ _ _ _ _ _ fit3 => (dg_name nd rfl (by first | exact .inl rfl | exact .inr rfl))) (fun _ _ _ _ _ => dts_nil) (fun _ _ _ _ _ _ fit3 => (de_chain fit3 (od_le) (od_le) de_str (de_var (pv 2)) de_str))) da_nil)))))))
theorem sc_are_parts : FnScope ["text", "parts"] ["text"] (defScope (top 14)) := ⟨rfl, rfl, rfl, by decide +kernel, rfl, by decide +kernel, by decide +kernel⟩
theorem b_are_parts {f : Addr} {fd : FuncData} (F : FnP K "are_parts" "are_parts" (top 14) f fd) (hs : ∀ X : Cx, X.K = K → X.mg = mg → X.w = w → Hs K mg w X)  : FnG P w K mg base 1 f fd ["text"] (spD K mg 1 F_are_parts) :=
  fn_Dd (N := ["text", "parts"]) F sc_are_parts fun cdv A outer s H E b fit bd => by
  have room := bd.room
  have gd := bd.gd
  have hu := room.units
  have nd := sc_are_parts.nd
  have hs : ∀ X : Cx, X.K = K → X.mg = mg → X.w = w → Hs K mg w X := hs
  exact (dss_cons (ds_set nd (i := 1) rfl (by first | exact .inl rfl | exact .inr rfl) (de_m fit PySem.F.plainAttrs_str PySem.F.slot_str_split PySem.F.type_str_split md_split (de_var (pv 0)) (da_cons de_str da_nil)))
   (dss_one (ds_ret (de_and (de_cmp fit (od_le) (de_callB fit cd_len (hs _ rfl rfl rfl).n_len (by kernel_rfl) (da_cons (de_var (pv 1)) da_nil)) (de_glob fit ((hs _ rfl rfl rfl).c_MOST_PARTS) rfl) (nomark _)) (de_and (de_cmp fit (od_notin hu) de_str (de_var (pv 1)) (by rfl)) (de_and (de_cmp fit (od_notin hu) de_str (de_var (pv 1)) (by rfl)) (de_one (de_cmp fit (od_notin hu) de_str (de_var (pv 1)) (by rfl)))))))))
theorem sc_is_name : FnScope ["value"] ["value"] (defScope (top 15)) := ⟨rfl, rfl, rfl, by decide +kernel, rfl, by decide +kernel, by decide +kernel⟩
theorem b_is_name {f : Addr} {fd : FuncData} (F : FnP K "is_name" "is_name" (top 15) f fd) (hs : ∀ X : Cx, X.K = K → X.mg = mg → X.w = w → Hs K mg w X) (g_is_string : Gf P w K mg base 1 "is_string" 2 F_is_string) (g_are_parts : Gf P w K mg base 1 "are_parts" 1 F_are_parts) : FnG P w K mg base 2 f fd ["value"] (spD K mg 1 F_is_name) :=
  fn_Dd (N := ["value"]) F sc_is_name fun cdv A outer s H E b fit bd => by
  have room := bd.room
  have gd := bd.gd
  have hu := room.units
  have nd := sc_is_name.nd
  have hs : ∀ X : Cx, X.K = K → X.mg = mg → X.w = w → Hs K mg w X := hs
  exact (dss_one (ds_ret (de_and (de_call fit bd.tk (g_is_string.cl room (by omega) gd) (dr_cons .fz (de_var (pv 0)) (fun _ => (dr_cons .fz (de_glob (fitA fit) ((hs _ rfl rfl rfl).c_MOST_NAME) rfl) (fun _ => dr_nil))))) (de_one (de_call fit bd.tk (g_are_parts.cl room (by omega) gd) (dr_cons .fz (de_var (pv 0)) (fun _ => dr_nil)))))))
theorem sc_is_thing : FnScope ["value"] ["value"] (defScope (top 16)) := ⟨rfl, rfl, rfl, by decide +kernel, rfl, by decide +kernel, by decide +kernel⟩
theorem b_is_thing {f : Addr} {fd : FuncData} (F : FnP K "is_thing" "is_thing" (top 16) f fd) (hs : ∀ X : Cx, X.K = K → X.mg = mg → X.w = w → Hs K mg w X) (g_is_string : Gf P w K mg base 1 "is_string" 2 F_is_string) (g_is_name : Gf P w K mg base 2 "is_name" 1 F_is_name) : FnG P w K mg base 3 f fd ["value"] (spD K mg 1 F_is_thing) :=
  fn_Dd (N := ["value"]) F sc_is_thing fun cdv A outer s H E b fit bd => by
  have room := bd.room
  have gd := bd.gd
  have hu := room.units
  have nd := sc_is_thing.nd
  have hs : ∀ X : Cx, X.K = K → X.mg = mg → X.w = w → Hs K mg w X := hs
  exact (dss_cons (ds_if (dw_pt (dw_or (dt_not (dt_val (de_isi fit (isi_tuple) (.ty "tuple") (pe_bltn (x := "tuple") rfl (hs _ rfl rfl rfl).n_tuple (by kernel_rfl) rfl) (de_var (pv 0)) (hs _ rfl rfl rfl).n_isinstance))) (dw_or (dt_cmp fit (od_eq hu) (de_var (pv 0)) (de_tup da_nil) (nomark _)) (dw_or1 (dt_not (dt_val (de_isi fit (isi_str) (.ty "str") (pe_bltn (x := "str") rfl (hs _ rfl rfl rfl).n_str (by kernel_rfl) rfl) (de_sub fit hu (de_var (pv 0)) de_int) (hs _ rfl rfl rfl).n_isinstance))))))) (dss_one (ds_ret de_bl)) dss_nil)
   (dss_cons (ds_if (dt_cmp fit (od_eq hu) (de_sub fit hu (de_var (pv 0)) de_int) de_str (nomark _)) (dss_one (ds_ret (de_cmp fit (od_eq hu) (de_callB fit cd_len (hs _ rfl rfl rfl).n_len (by kernel_rfl) (da_cons (de_var (pv 0)) da_nil)) de_int (nomark _)))) dss_nil)
   (dss_cons (ds_if (dt_cmp fit (od_neX hu) (de_callB fit cd_len (hs _ rfl rfl rfl).n_len (by kernel_rfl) (da_cons (de_var (pv 0)) da_nil)) de_int (nomark _)) (dss_one (ds_ret de_bl)) dss_nil)
   (dss_cons (ds_if (dt_cmp fit (od_eq hu) (de_sub fit hu (de_var (pv 0)) de_int) de_str (nomark _)) (dss_one (ds_ret (de_call fit bd.tk (g_is_string.cl room (by omega) gd) (dr_cons .fz (de_sub fit hu (de_var (pv 0)) de_int) (fun _ => (dr_cons .fz (de_glob (fitA fit) ((hs _ rfl rfl rfl).c_MOST_TEXT) rfl) (fun _ => dr_nil))))))) dss_nil)
   (dss_one (ds_ret (de_and (de_cmp fit (od_eq hu) (de_sub fit hu (de_var (pv 0)) de_int) de_str (nomark _)) (de_one (de_call fit bd.tk (g_is_name.cl room (by omega) gd) (dr_cons .fz (de_sub fit hu (de_var (pv 0)) de_int) (fun _ => dr_nil)))))))))))
theorem sc_is_integer : FnScope ["value"] ["value"] (defScope (top 7)) := ⟨rfl, rfl, rfl, by decide +kernel, rfl, by decide +kernel, by decide +kernel⟩
theorem b_is_integer {f : Addr} {fd : FuncData} (F : FnP K "is_integer" "is_integer" (top 7) f fd) (hs : ∀ X : Cx, X.K = K → X.mg = mg → X.w = w → Hs K mg w X)  : FnG P w K mg base 1 f fd ["value"] (spD K mg 1 F_is_integer) :=
  fn_Dd (N := ["value"]) F sc_is_integer fun cdv A outer s H E b fit bd => by
  have room := bd.room
  have gd := bd.gd
  have hu := room.units
  have nd := sc_is_integer.nd
  have hs : ∀ X : Cx, X.K = K → X.mg = mg → X.w = w → Hs K mg w X := hs
  exact (dss_one (ds_ret (de_and (de_isi fit (isi_int) (.ty "int") (pe_bltn (x := "int") rfl (hs _ rfl rfl rfl).n_int (by kernel_rfl) rfl) (de_var (pv 0)) (hs _ rfl rfl rfl).n_isinstance) (de_one (de_not (de_isi fit (isi_bool) (.ty "bool") (pe_bltn (x := "bool") rfl (hs _ rfl rfl rfl).n_bool (by kernel_rfl) rfl) (de_var (pv 0)) (hs _ rfl rfl rfl).n_isinstance))))))
theorem sc_within : FnScope ["value", "low", "high"] ["value", "low", "high"] (defScope (top 8)) := ⟨rfl, rfl, rfl, by decide +kernel, rfl, by decide +kernel, by decide +kernel⟩
theorem b_within {f : Addr} {fd : FuncData} (F : FnP K "within" "within" (top 8) f fd) (hs : ∀ X : Cx, X.K = K → X.mg = mg → X.w = w → Hs K mg w X) (g_is_integer : Gf P w K mg base 1 "is_integer" 1 F_is_integer) : FnG P w K mg base 2 f fd ["value", "low", "high"] (spD K mg 3 F_within) :=
  fn_Dd (N := ["value", "low", "high"]) F sc_within fun cdv A outer s H E b fit bd => by
  have room := bd.room
  have gd := bd.gd
  have hu := room.units
  have nd := sc_within.nd
  have hs : ∀ X : Cx, X.K = K → X.mg = mg → X.w = w → Hs K mg w X := hs
  exact (dss_one (ds_ret (de_and (de_call fit bd.tk (g_is_integer.cl room (by omega) gd) (dr_cons .fz (de_var (pv 0)) (fun _ => dr_nil))) (de_one (de_chain fit (od_le) (od_le) (de_var (pv 1)) (de_var (pv 0)) (de_var (pv 2)))))))
theorem sc_is_item : FnScope ["value", "number", "heads"] ["value", "number", "heads"] (defScope (top 17)) := ⟨rfl, rfl, rfl, by decide +kernel, rfl, by decide +kernel, by decide +kernel⟩
theorem b_is_item {f : Addr} {fd : FuncData} (F : FnP K "is_item" "is_item" (top 17) f fd) (hs : ∀ X : Cx, X.K = K → X.mg = mg → X.w = w → Hs K mg w X) (g_within : Gf P w K mg base 2 "within" 3 F_within) : FnG P w K mg base 3 f fd ["value", "number", "heads"] (spD K mg 3 F_is_item) :=
  fn_Dd (N := ["value", "number", "heads"]) F sc_is_item fun cdv A outer s H E b fit bd => by
  have room := bd.room
  have gd := bd.gd
  have hu := room.units
  have nd := sc_is_item.nd
  have hs : ∀ X : Cx, X.K = K → X.mg = mg → X.w = w → Hs K mg w X := hs
  exact (dss_cons (ds_if (dw_pt (dw_or (dt_not (dt_val (de_isi fit (isi_tuple) (.ty "tuple") (pe_bltn (x := "tuple") rfl (hs _ rfl rfl rfl).n_tuple (by kernel_rfl) rfl) (de_var (pv 0)) (hs _ rfl rfl rfl).n_isinstance))) (dw_or (dt_cmp fit (od_neX hu) (de_callB fit cd_len (hs _ rfl rfl rfl).n_len (by kernel_rfl) (da_cons (de_var (pv 0)) da_nil)) de_int (nomark _)) (dw_or (dt_not (dt_val (de_isi fit (isi_str) (.ty "str") (pe_bltn (x := "str") rfl (hs _ rfl rfl rfl).n_str (by kernel_rfl) rfl) (de_sub fit hu (de_var (pv 0)) de_int) (hs _ rfl rfl rfl).n_isinstance))) (dw_or1 (dt_cmp fit (od_notin hu) (de_sub fit hu (de_var (pv 0)) de_int) (de_var (pv 2)) (by rfl))))))) (dss_one (ds_ret de_bl)) dss_nil)
   (dss_one (ds_ret (de_and (de_call fit bd.tk (g_within.cl room (by omega) gd) (dr_cons .fz (de_sub fit hu (de_var (pv 0)) de_int) (fun _ => (dr_cons .fz de_int (fun _ => (dr_cons .fz (de_var (pv 1)) (fun _ => dr_nil))))))) (de_one (de_or (de_cmp fit (od_eq hu) (de_sub fit hu (de_var (pv 0)) de_int) de_int (nomark _)) (de_one (de_cmp fit (od_in hu) (de_op fit od_sub (de_var (pv 1)) (de_sub fit hu (de_var (pv 0)) de_int)) (de_sub fit hu (de_var (pv 2)) (de_sub fit hu (de_var (pv 0)) de_int)) (by rfl)))))))))
theorem sc_are_items : FnScope ["value", "number", "heads", "item", "one", "other"] ["value", "number", "heads"] (defScope (top 18)) := ⟨rfl, rfl, rfl, by decide +kernel, rfl, by decide +kernel, by decide +kernel⟩
theorem b_are_items {f : Addr} {fd : FuncData} (F : FnP K "are_items" "are_items" (top 18) f fd) (hs : ∀ X : Cx, X.K = K → X.mg = mg → X.w = w → Hs K mg w X) (g_is_item : Gf P w K mg base 3 "is_item" 3 F_is_item) : FnG P w K mg base 4 f fd ["value", "number", "heads"] (spD K mg 3 F_are_items) :=
  fn_Dd (N := ["value", "number", "heads", "item", "one", "other"]) F sc_are_items fun cdv A outer s H E b fit bd => by
  have room := bd.room
  have gd := bd.gd
  have hu := room.units
  have nd := sc_are_items.nd
  have hs : ∀ X : Cx, X.K = K → X.mg = mg → X.w = w → Hs K mg w X := hs
  exact (dss_cons (ds_if (dw_pt (dw_or (dt_not (dt_val (de_isi fit (isi_tuple) (.ty "tuple") (pe_bltn (x := "tuple") rfl (hs _ rfl rfl rfl).n_tuple (by kernel_rfl) rfl) (de_var (pv 0)) (hs _ rfl rfl rfl).n_isinstance))) (dw_or1 (dt_not (dt_val (de_callB fit (cd_all rfl) (hs _ rfl rfl rfl).n_all (by kernel_rfl) (da_cons (de_comp [("item", 3)] fit nd (di_seq fit (de_var (pv 0))) (blk_sc (N' := ["value", "number", "heads", "item", "one", "other"]) (sc' := (defScope (top 18))) rfl rfl (by show BlkOk _ _ _ [("item", 3)]; exact ⟨rfl, by decide +kernel, by decide +kernel, by decide +kernel, by decide +kernel⟩)) (by decide) (fun _ _ _ _ _ _ fit4 => (dg_name nd rfl (by first | exact .inl rfl | exact .inr rfl))) (fun _ _ _ _ _ => dts_nil) (fun _ _ _ _ _ _ fit4 => (de_call fit4 takes0 (g_is_item.cl room (by omega) gd) (dr_cons .fz (de_var (pv 3)) (fun _ => (dr_cons .fz (de_var (pv 1)) (fun _ => (dr_cons .keep (de_var (pv 2)) (fun _ => dr_nil))))))))) da_nil))))))) (dss_one (ds_ret de_bl)) dss_nil)
   (dss_one (ds_ret (de_callB fit (cd_all rfl) (hs _ rfl rfl rfl).n_all (by kernel_rfl) (da_cons (de_comp [("one", 4), ("other", 5)] fit nd (di_zipA fit (hs _ rfl rfl rfl).n_zip (da_cons (de_var (pv 0)) (da_cons (de_slice fit (de_var (pv 0)) (do_some de_int) do_none) da_nil))) (blk_sc (N' := ["value", "number", "heads", "item", "one", "other"]) (sc' := (defScope (top 18))) rfl rfl (by show BlkOk _ _ _ [("one", 4), ("other", 5)]; exact ⟨rfl, by decide +kernel, by decide +kernel, by decide +kernel, by decide +kernel⟩)) (by decide) (fun _ _ _ _ _ _ fit5 => (dg_tup rfl fit5 rfl (dgs_cons (dg_name nd rfl (by first | exact .inl rfl | exact .inr rfl)) (dgs_cons (dg_name nd rfl (by first | exact .inl rfl | exact .inr rfl)) dgs_nil)))) (fun _ _ _ _ _ => dts_nil) (fun _ _ _ _ _ _ fit5 => (de_cmp fit5 (od_lt) (de_sub fit5 hu (de_var (pv 4)) de_int) (de_sub fit5 hu (de_var (pv 5)) de_int) (nomark _)))) da_nil)))))
theorem sc_is_record : FnScope ["value", "number", "heads"] ["value", "number", "heads"] (defScope (top 19)) := ⟨rfl, rfl, rfl, by decide +kernel, rfl, by decide +kernel, by decide +kernel⟩
theorem b_is_record {f : Addr} {fd : FuncData} (F : FnP K "is_record" "is_record" (top 19) f fd) (hs : ∀ X : Cx, X.K = K → X.mg = mg → X.w = w → Hs K mg w X) (g_is_name : Gf P w K mg base 2 "is_name" 1 F_is_name) (g_is_thing : Gf P w K mg base 3 "is_thing" 1 F_is_thing) (g_are_items : Gf P w K mg base 4 "are_items" 3 F_are_items) : FnG P w K mg base 5 f fd ["value", "number", "heads"] (spD K mg 3 F_is_record) :=
  fn_Dd (N := ["value", "number", "heads"]) F sc_is_record fun cdv A outer s H E b fit bd => by
  have room := bd.room
  have gd := bd.gd
  have hu := room.units
  have nd := sc_is_record.nd
  have hs : ∀ X : Cx, X.K = K → X.mg = mg → X.w = w → Hs K mg w X := hs
  exact (dss_cons (ds_if (dw_pt (dw_or (dt_not (dt_val (de_isi fit (isi_tuple) (.ty "tuple") (pe_bltn (x := "tuple") rfl (hs _ rfl rfl rfl).n_tuple (by kernel_rfl) rfl) (de_var (pv 0)) (hs _ rfl rfl rfl).n_isinstance))) (dw_or (dt_cmp fit (od_eq hu) (de_var (pv 0)) (de_tup da_nil) (nomark _)) (dw_or1 (dt_not (dt_val (de_isi fit (isi_str) (.ty "str") (pe_bltn (x := "str") rfl (hs _ rfl rfl rfl).n_str (by kernel_rfl) rfl) (de_sub fit hu (de_var (pv 0)) de_int) (hs _ rfl rfl rfl).n_isinstance))))))) (dss_one (ds_ret de_bl)) dss_nil)
   (dss_cons (ds_if (dt_cmp fit (od_eq hu) (de_sub fit hu (de_var (pv 0)) de_int) de_str (nomark _)) (dss_one (ds_ret (de_and (de_cmp fit (od_eq hu) (de_callB fit cd_len (hs _ rfl rfl rfl).n_len (by kernel_rfl) (da_cons (de_var (pv 0)) da_nil)) de_int (nomark _)) (de_and (de_call fit bd.tk (g_is_name.cl room (by omega) gd) (dr_cons .fz (de_sub fit hu (de_var (pv 0)) de_int) (fun _ => dr_nil))) (de_one (de_call fit bd.tk (g_is_thing.cl room (by omega) gd) (dr_cons .fz (de_sub fit hu (de_var (pv 0)) de_int) (fun _ => dr_nil)))))))) dss_nil)
   (dss_cons (ds_if (dt_cmp fit (od_neX hu) (de_callB fit cd_len (hs _ rfl rfl rfl).n_len (by kernel_rfl) (da_cons (de_var (pv 0)) da_nil)) de_int (nomark _)) (dss_one (ds_ret de_bl)) dss_nil)
   (dss_one (ds_ret (de_if (dt_cmp fit (od_eq hu) (de_sub fit hu (de_var (pv 0)) de_int) de_str (nomark _)) (de_call fit bd.tk (g_is_name.cl room (by omega) gd) (dr_cons .fz (de_sub fit hu (de_var (pv 0)) de_int) (fun _ => dr_nil))) (de_and (de_cmp fit (od_eq hu) (de_sub fit hu (de_var (pv 0)) de_int) de_str (nomark _)) (de_one (de_call fit bd.tk (g_are_items.cl room (by omega) gd) (dr_cons .fz (de_sub fit hu (de_var (pv 0)) de_int) (fun _ => (dr_cons .fz (de_var (pv 1)) (fun _ => (dr_cons .keep (de_var (pv 2)) (fun _ => dr_nil)))))))))))))))
theorem sc_Archive_init : FnScope ["self", "records", "heads", "number", "record"] ["self", "records"] (defScope (cbody 20 0)) := ⟨rfl, rfl, rfl, by decide +kernel, rfl, by decide +kernel, by decide +kernel⟩
theorem b_Archive_init {f : Addr} {fd : FuncData} (F : FnP K "__init__" "Archive.__init__" (cbody 20 0) f fd) (hs : ∀ X : Cx, X.K = K → X.mg = mg → X.w = w → Hs K mg w X) (g_is_record : Gf P w K mg base 5 "is_record" 3 F_is_record) (x_BadRecord : Xf P w K mg base "BadRecord" ["number"]) : FnG P w K mg base 6 f fd ["self", "records"] (spD K mg 2 F_Archive_init) :=
  fn_Dd (N := ["self", "records", "heads", "number", "record"]) F sc_Archive_init fun cdv A outer s H E b fit bd => by
  have room := bd.room
  have gd := bd.gd
  have hu := room.units
  have nd := sc_Archive_init.nd
  have hs : ∀ X : Cx, X.K = K → X.mg = mg → X.w = w → Hs K mg w X := hs
  exact (dss_cons (ds_if (dt_not (dt_val (de_isi fit (isi_list) (.ty "list") (pe_bltn (x := "list") rfl (hs _ rfl rfl rfl).n_list (by kernel_rfl) rfl) (de_var (pv 1)) (hs _ rfl rfl rfl).n_isinstance))) (dss_one (ds_raiseF fit bd.tk x_BadRecord room (by omega) (da_cons de_int da_nil))) dss_nil)
   (dss_cons (ds_set nd (i := 2) rfl (by first | exact .inl rfl | exact .inr rfl) de_dict0)
   (dss_cons (ds_for bd.hp (di_enumC fit (hs _ rfl rfl rfl).n_enumerate (da_cons (de_var (pv 1)) (da_cons de_int da_nil))) (dg_tup rfl fit rfl (dgs_cons (dg_name nd rfl (by first | exact .inl rfl | exact .inr rfl)) (dgs_cons (dg_name nd rfl (by first | exact .inl rfl | exact .inr rfl)) dgs_nil))) (dss_cons (ds_if (dt_not (dt_val (de_call fit bd.tk (g_is_record.cl room (by omega) gd) (dr_cons .fz (de_var (pv 4)) (fun _ => (dr_cons .fz (de_var (pv 3)) (fun _ => (dr_cons .keep (de_var (pv 2)) (fun _ => dr_nil))))))))) (dss_one (ds_raiseF fit bd.tk x_BadRecord room (by omega) (da_cons (de_var (pv 3)) da_nil))) dss_nil)
   (dss_one (ds_if (dt_cmp fit (od_eq hu) (de_sub fit hu (de_var (pv 4)) de_int) de_str (nomark _)) (dss_one (ds_asgM (de_op fit od_add (de_mF fit PySem.F.plainAttrs_dict PySem.F.slot_dict_get PySem.F.type_dict_get (md_getF (hu1 hu)) (de_var (pv 2)) (da_cons (de_sub fit hu (de_var (pv 4)) de_int) (da_cons (de_lst da_nil) da_nil))) (de_lst (da_cons (de_var (pv 3)) da_nil))) (dgm_sub fit hu (de_var (pv 2)) (de_sub fit hu (de_var (pv 4)) de_int)))) dss_nil))))
   (dss_cons (ds_fld fit (hs _ rfl rfl rfl).f_Archive_kept_records (pv 0) (de_callTy fit (cd_list rfl) (hs _ rfl rfl rfl).n_list (by kernel_rfl) (da_cons (de_var (pv 1)) da_nil)))
   (dss_one (ds_fld fit (hs _ rfl rfl rfl).f_Archive_headed (pv 0) (de_var (pv 2))))))))
theorem sc_Archive_records : FnScope ["self"] ["self"] (defScope (cbody 20 1)) := ⟨rfl, rfl, rfl, by decide +kernel, rfl, by decide +kernel, by decide +kernel⟩
theorem b_Archive_records {f : Addr} {fd : FuncData} (F : FnP K "records" "Archive.records" (cbody 20 1) f fd) (hs : ∀ X : Cx, X.K = K → X.mg = mg → X.w = w → Hs K mg w X)  : FnG P w K mg base 1 f fd ["self"] (spD K mg 1 F_Archive_records) :=
  fn_Dd (N := ["self"]) F sc_Archive_records fun cdv A outer s H E b fit bd => by
  have room := bd.room
  have gd := bd.gd
  have hu := room.units
  have nd := sc_Archive_records.nd
  have hs : ∀ X : Cx, X.K = K → X.mg = mg → X.w = w → Hs K mg w X := hs
  exact (dss_one (ds_ret (de_callTy fit (cd_list rfl) (hs _ rfl rfl rfl).n_list (by kernel_rfl) (da_cons (de_fld fit (hs _ rfl rfl rfl).f_Archive_kept_records (de_var (pv 0))) da_nil))))
theorem sc_marked : FnScope ["text", "sign"] ["text"] (defScope (top 25)) := ⟨rfl, rfl, rfl, by decide +kernel, rfl, by decide +kernel, by decide +kernel⟩
theorem b_marked {f : Addr} {fd : FuncData} (F : FnP K "marked" "marked" (top 25) f fd) (hs : ∀ X : Cx, X.K = K → X.mg = mg → X.w = w → Hs K mg w X)  : FnG P w K mg base 1 f fd ["text"] (spD K mg 1 F_marked) :=
  fn_Dd (N := ["text", "sign"]) F sc_marked fun cdv A outer s H E b fit bd => by
  have room := bd.room
  have gd := bd.gd
  have hu := room.units
  have nd := sc_marked.nd
  have hs : ∀ X : Cx, X.K = K → X.mg = mg → X.w = w → Hs K mg w X := hs
  exact (dss_one (ds_ret (de_m fit PySem.F.plainAttrs_str PySem.F.slot_str_join PySem.F.type_str_join md_join de_str (da_cons (de_comp [("sign", 1)] fit nd (di_seq fit (de_var (pv 0))) (blk_sc (N' := ["text", "sign"]) (sc' := (defScope (top 25))) rfl rfl (by show BlkOk _ _ _ [("sign", 1)]; exact ⟨rfl, by decide +kernel, by decide +kernel, by decide +kernel, by decide +kernel⟩)) (by decide) (fun _ _ _ _ _ _ fit6 => (dg_name nd rfl (by first | exact .inl rfl | exact .inr rfl))) (fun _ _ _ _ _ => dts_nil) (fun _ _ _ _ _ _ fit6 => (de_kget fit6 (hs _ rfl rfl rfl).k_MARKS (de_var (pv 1)) (de_var (pv 1))))) da_nil))))
theorem sc_thing_text : FnScope ["thing"] ["thing"] (defScope (top 27)) := ⟨rfl, rfl, rfl, by decide +kernel, rfl, by decide +kernel, by decide +kernel⟩
theorem b_thing_text {f : Addr} {fd : FuncData} (F : FnP K "thing_text" "thing_text" (top 27) f fd) (hs : ∀ X : Cx, X.K = K → X.mg = mg → X.w = w → Hs K mg w X) (g_marked : Gf P w K mg base 1 "marked" 1 F_marked) : FnG P w K mg base 2 f fd ["thing"] (spD K mg 1 F_thing_text) :=
  fn_Dd (N := ["thing"]) F sc_thing_text fun cdv A outer s H E b fit bd => by
  have room := bd.room
  have gd := bd.gd
  have hu := room.units
  have nd := sc_thing_text.nd
  have hs : ∀ X : Cx, X.K = K → X.mg = mg → X.w = w → Hs K mg w X := hs
  exact (dss_one (ds_ret (de_if (dt_cmp fit (od_eq hu) (de_callB fit cd_len (hs _ rfl rfl rfl).n_len (by kernel_rfl) (da_cons (de_var (pv 0)) da_nil)) de_int (nomark _)) (de_op fit od_add (de_sub fit hu (de_sub fit hu (de_var (pv 0)) de_int) de_int) (de_call fit bd.tk (g_marked.cl room (by omega) gd) (dr_cons .fz (de_sub fit hu (de_var (pv 0)) de_int) (fun _ => dr_nil)))) de_str)))
theorem sc_record_text : FnScope ["record", "starts", "items", "name", "back", "distance"] ["record", "starts"] (defScope (top 28)) := ⟨rfl, rfl, rfl, by decide +kernel, rfl, by decide +kernel, by decide +kernel⟩
theorem b_record_text {f : Addr} {fd : FuncData} (F : FnP K "record_text" "record_text" (top 28) f fd) (hs : ∀ X : Cx, X.K = K → X.mg = mg → X.w = w → Hs K mg w X) (g_marked : Gf P w K mg base 1 "marked" 1 F_marked) (g_thing_text : Gf P w K mg base 2 "thing_text" 1 F_thing_text) : FnG P w K mg base 3 f fd ["record", "starts"] (spD K mg 2 F_record_text) :=
  fn_Dd (N := ["record", "starts", "items", "name", "back", "distance"]) F sc_record_text fun cdv A outer s H E b fit bd => by
  have room := bd.room
  have gd := bd.gd
  have hu := room.units
  have nd := sc_record_text.nd
  have hs : ∀ X : Cx, X.K = K → X.mg = mg → X.w = w → Hs K mg w X := hs
  exact (dss_cons (ds_if (dt_cmp fit (od_eq hu) (de_sub fit hu (de_var (pv 0)) de_int) de_str (nomark _)) (dss_one (ds_ret (de_op fit od_add (de_op fit od_add (de_op fit od_add (de_op fit od_add de_str (de_call fit bd.tk (g_marked.cl room (by omega) gd) (dr_cons .fz (de_sub fit hu (de_var (pv 0)) de_int) (fun _ => dr_nil)))) de_str) (de_call fit bd.tk (g_thing_text.cl room (by omega) gd) (dr_cons .fz (de_sub fit hu (de_var (pv 0)) de_int) (fun _ => dr_nil)))) de_str))) dss_nil)
   (dss_cons (ds_if (dt_cmp fit (od_eq hu) (de_sub fit hu (de_var (pv 0)) de_int) de_str (nomark _)) (dss_one (ds_ret (de_op fit od_add (de_op fit od_add de_str (de_call fit bd.tk (g_marked.cl room (by omega) gd) (dr_cons .fz (de_sub fit hu (de_var (pv 0)) de_int) (fun _ => dr_nil)))) de_str))) dss_nil)
   (dss_cons (ds_set nd (i := 2) rfl (by first | exact .inl rfl | exact .inr rfl) (de_lst da_nil))
   (dss_cons (ds_for bd.hp (di_seq fit (de_sub fit hu (de_var (pv 0)) de_int)) (dg_tup rfl fit rfl (dgs_cons (dg_name nd rfl (by first | exact .inl rfl | exact .inr rfl)) (dgs_cons (dg_name nd rfl (by first | exact .inl rfl | exact .inr rfl)) dgs_nil))) (dss_cons (ds_set nd (i := 5) rfl (by first | exact .inl rfl | exact .inr rfl) (de_if (dt_cmp fit (od_gt) (de_var (pv 4)) de_int (nomark _)) (de_op fit od_sub (de_sub fit hu (de_var (pv 1)) (de_un fit ud_neg de_int)) (de_sub fit hu (de_var (pv 1)) (de_op fit od_sub (de_op fit od_sub (de_callB fit cd_len (hs _ rfl rfl rfl).n_len (by kernel_rfl) (da_cons (de_var (pv 1)) da_nil)) de_int) (de_var (pv 4))))) de_int))
   (dss_one (ds_expr (de_u fit PySem.F.plainAttrs_list PySem.F.slot_list_append PySem.F.type_list_append mu_append (de_var (pv 2)) (da_cons (de_op fit od_add (de_op fit od_add (de_call fit bd.tk (g_marked.cl room (by omega) gd) (dr_cons .fz (de_var (pv 3)) (fun _ => dr_nil))) de_str) (de_callTy fit cd_str (hs _ rfl rfl rfl).n_str (by kernel_rfl) (da_cons (de_var (pv 5)) da_nil))) da_nil))))))
   (dss_one (ds_ret (de_op fit od_add (de_op fit od_add de_str (de_m fit PySem.F.plainAttrs_str PySem.F.slot_str_join PySem.F.type_str_join md_join de_str (da_cons (de_var (pv 2)) da_nil))) de_str)))))))
theorem sc_show : FnScope ["archive", "found", "starts", "record"] ["archive"] (defScope (top 29)) := ⟨rfl, rfl, rfl, by decide +kernel, rfl, by decide +kernel, by decide +kernel⟩
theorem b_show {f : Addr} {fd : FuncData} (F : FnP K "show" "show" (top 29) f fd) (hs : ∀ X : Cx, X.K = K → X.mg = mg → X.w = w → Hs K mg w X) (g_Archive_records : ClP P w K mg base 1 "Archive" "records" F_Archive_records) (g_record_text : Gf P w K mg base 3 "record_text" 2 F_record_text) : FnG P w K mg base 4 f fd ["archive"] (spD K mg 1 F_show) :=
  fn_Dd (N := ["archive", "found", "starts", "record"]) F sc_show fun cdv A outer s H E b fit bd => by
  have room := bd.room
  have gd := bd.gd
  have hu := room.units
  have nd := sc_show.nd
  have hs : ∀ X : Cx, X.K = K → X.mg = mg → X.w = w → Hs K mg w X := hs
  exact (dss_cons (ds_par rfl nd (i := 1) (j := 2) rfl rfl (by decide) rfl rfl (dr_cons .unsl de_str (fun _ => (dr_cons .unsl (de_lst da_nil) (fun _ => dr_nil)))) (by rfl))
   (dss_cons (ds_for bd.hp (di_seq fit (de_prop .fz fit g_Archive_records room (by omega) gd (de_var (pv 0)))) (dg_name nd rfl (by first | exact .inl rfl | exact .inr rfl)) (dss_cons (ds_set nd (i := 2) rfl (by first | exact .inl rfl | exact .inr rfl) (de_op fit od_add (de_var (pv 2)) (de_lst (da_cons (de_callB fit cd_len (hs _ rfl rfl rfl).n_len (by kernel_rfl) (da_cons (de_var (pv 1)) da_nil)) da_nil))))
   (dss_one (ds_set nd (i := 1) rfl (by first | exact .inl rfl | exact .inr rfl) (de_op fit od_add (de_var (pv 1)) (de_call fit bd.tk (g_record_text.cl room (by omega) gd) (dr_cons .fz (de_var (pv 3)) (fun _ => (dr_cons .fz (de_var (pv 2)) (fun _ => dr_nil))))))))))
   (dss_one (ds_ret (de_var (pv 1))))))
theorem sc_whole_part : FnScope ["text"] ["text"] (defScope (top 35)) := ⟨rfl, rfl, rfl, by decide +kernel, rfl, by decide +kernel, by decide +kernel⟩
theorem b_whole_part {f : Addr} {fd : FuncData} (F : FnP K "whole_part" "whole_part" (top 35) f fd) (hs : ∀ X : Cx, X.K = K → X.mg = mg → X.w = w → Hs K mg w X)  : FnG P w K mg base 1 f fd ["text"] (spD K mg 1 F_whole_part) :=
  fn_Dd (N := ["text"]) F sc_whole_part fun cdv A outer s H E b fit bd => by
  have room := bd.room
  have gd := bd.gd
  have hu := room.units
  have nd := sc_whole_part.nd
  have hs : ∀ X : Cx, X.K = K → X.mg = mg → X.w = w → Hs K mg w X := hs
  exact (dss_one (ds_ret (de_slice fit (de_var (pv 0)) do_none (do_some (de_op fit od_add (de_m fit PySem.F.plainAttrs_str PySem.F.slot_str_rfind PySem.F.type_str_rfind md_rfind (de_var (pv 0)) (da_cons de_str da_nil)) de_int)))))
theorem sc_Archive_eq : FnScope ["self", "other"] ["self", "other"] (defScope (cbody 20 6)) := ⟨rfl, rfl, rfl, by decide +kernel, rfl, by decide +kernel, by decide +kernel⟩
theorem b_Archive_eq {f : Addr} {fd : FuncData} (F : FnP K "__eq__" "Archive.__eq__" (cbody 20 6) f fd) (hs : ∀ X : Cx, X.K = K → X.mg = mg → X.w = w → Hs K mg w X)  : FnG P w K mg base 1 f fd ["self", "other"] (spD K mg 2 F_Archive_eq) :=
  fn_Dd (N := ["self", "other"]) F sc_Archive_eq fun cdv A outer s H E b fit bd => by
  have room := bd.room
  have gd := bd.gd
  have hu := room.units
  have nd := sc_Archive_eq.nd
  have hs : ∀ X : Cx, X.K = K → X.mg = mg → X.w = w → Hs K mg w X := hs
  exact (dss_one (ds_ret (de_and (de_isiO fit (hs _ rfl rfl rfl).i_Archive (de_var (pv 1)) (hs _ rfl rfl rfl).n_isinstance) (de_one (de_cmp fit (od_eq hu) (de_fld fit (hs _ rfl rfl rfl).f_Archive_kept_records (de_var (pv 0))) (de_fld fit (hs _ rfl rfl rfl).f_Archive_kept_records (de_var (pv 1))) (nomark _))))))
theorem sc_unmarked : FnScope ["text", "found", "at"] ["text"] (defScope (top 26)) := ⟨rfl, rfl, rfl, by decide +kernel, rfl, by decide +kernel, by decide +kernel⟩
theorem b_unmarked {f : Addr} {fd : FuncData} (F : FnP K "unmarked" "unmarked" (top 26) f fd) (hs : ∀ X : Cx, X.K = K → X.mg = mg → X.w = w → Hs K mg w X)  : FnG P w K mg base 1 f fd ["text"] (spD K mg 1 F_unmarked) :=
  fn_Dd (N := ["text", "found", "at"]) F sc_unmarked fun cdv A outer s H E b fit bd => by
  have room := bd.room
  have gd := bd.gd
  have hu := room.units
  have nd := sc_unmarked.nd
  have hs : ∀ X : Cx, X.K = K → X.mg = mg → X.w = w → Hs K mg w X := hs
  exact (dss_cons (ds_parT (is := [1, 2]) rfl (dr_cons .unsl de_str (fun _ => (dr_cons .unsl de_int (fun _ => dr_nil)))) (pgs_cons (pg_name nd rfl (by first | exact .inl rfl | exact .inr rfl)) (pgs_cons (pg_name nd rfl (by first | exact .inl rfl | exact .inr rfl)) pgs_nil)) rfl)
   (dss_cons (ds_while 100000 bd.hp (dt_cmp fit (od_lt) (de_var (pv 2)) (de_callB fit cd_len (hs _ rfl rfl rfl).n_len (by kernel_rfl) (da_cons (de_var (pv 0)) da_nil)) (nomark _)) (dss_one (ds_if (dt_cmp fit (od_neX hu) (de_sub fit hu (de_var (pv 0)) (de_var (pv 2))) de_str (nomark _)) (dss_cons (ds_if (dt_kin (hs _ rfl rfl rfl).k_MARKS (de_sub fit hu (de_var (pv 0)) (de_var (pv 2)))) (dss_one (ds_ret de_non)) dss_nil)
   (dss_cons (ds_set nd (i := 1) rfl (by first | exact .inl rfl | exact .inr rfl) (de_op fit od_add (de_var (pv 1)) (de_sub fit hu (de_var (pv 0)) (de_var (pv 2)))))
   (dss_one (ds_set nd (i := 2) rfl (by first | exact .inl rfl | exact .inr rfl) (de_op fit od_add (de_var (pv 2)) de_int))))) (dss_cons (ds_if (dt_knotin (hs _ rfl rfl rfl).k_SIGNS (de_slice fit (de_var (pv 0)) (do_some (de_op fit od_add (de_var (pv 2)) de_int)) (do_some (de_op fit od_add (de_var (pv 2)) de_int)))) (dss_one (ds_ret de_non)) dss_nil)
   (dss_cons (ds_set nd (i := 1) rfl (by first | exact .inl rfl | exact .inr rfl) (de_op fit od_add (de_var (pv 1)) (de_kix fit (hs _ rfl rfl rfl).k_SIGNS (de_sub fit hu (de_var (pv 0)) (de_op fit od_add (de_var (pv 2)) de_int)))))
   (dss_one (ds_set nd (i := 2) rfl (by first | exact .inl rfl | exact .inr rfl) (de_op fit od_add (de_var (pv 2)) de_int))))))))
   (dss_one (ds_ret (de_var (pv 1))))))
theorem sc_read_number : FnScope ["text", "sign"] ["text"] (defScope (top 31)) := ⟨rfl, rfl, rfl, by decide +kernel, rfl, by decide +kernel, by decide +kernel⟩
theorem b_read_number {f : Addr} {fd : FuncData} (F : FnP K "read_number" "read_number" (top 31) f fd) (hs : ∀ X : Cx, X.K = K → X.mg = mg → X.w = w → Hs K mg w X)  : FnG P w K mg base 1 f fd ["text"] (spD K mg 1 F_read_number) :=
  fn_Dd (N := ["text", "sign"]) F sc_read_number fun cdv A outer s H E b fit bd => by
  have room := bd.room
  have gd := bd.gd
  have hu := room.units
  have nd := sc_read_number.nd
  have hs : ∀ X : Cx, X.K = K → X.mg = mg → X.w = w → Hs K mg w X := hs
  exact (dss_cons (ds_if (dw_pt (dw_or (dt_cmp fit (od_eq hu) (de_var (pv 0)) de_str (nomark _)) (dw_or (dt_cmp fit (od_gt) (de_callB fit cd_len (hs _ rfl rfl rfl).n_len (by kernel_rfl) (da_cons (de_var (pv 0)) da_nil)) de_int (nomark _)) (dw_or1 (dt_not (dt_val (de_callB fit (cd_all rfl) (hs _ rfl rfl rfl).n_all (by kernel_rfl) (da_cons (de_comp [("sign", 1)] fit nd (di_seq fit (de_var (pv 0))) (blk_sc (N' := ["text", "sign"]) (sc' := (defScope (top 31))) rfl rfl (by show BlkOk _ _ _ [("sign", 1)]; exact ⟨rfl, by decide +kernel, by decide +kernel, by decide +kernel, by decide +kernel⟩)) (by decide) (fun _ _ _ _ _ _ fit7 => (dg_name nd rfl (by first | exact .inl rfl | exact .inr rfl))) (fun _ _ _ _ _ => dts_nil) (fun _ _ _ _ _ _ fit7 => (de_cmp fit7 (od_in hu) (de_var (pv 1)) (de_glob fit7 ((hs _ rfl rfl rfl).c_DIGITS) rfl) (by rfl)))) da_nil)))))))) (dss_one (ds_ret de_non)) dss_nil)
   (dss_one (ds_ret (de_if (dt_cmp fit (od_eq hu) (de_callTy fit cd_str (hs _ rfl rfl rfl).n_str (by kernel_rfl) (da_cons (de_callTy fit cd_int (hs _ rfl rfl rfl).n_int (by kernel_rfl) (da_cons (de_var (pv 0)) da_nil)) da_nil)) (de_var (pv 0)) (nomark _)) (de_callTy fit cd_int (hs _ rfl rfl rfl).n_int (by kernel_rfl) (da_cons (de_var (pv 0)) da_nil)) de_non))))
theorem sc_read_item : FnScope ["text", "starts", "parts", "name", "distance", "start"] ["text", "starts"] (defScope (top 32)) := ⟨rfl, rfl, rfl, by decide +kernel, rfl, by decide +kernel, by decide +kernel⟩
theorem b_read_item {f : Addr} {fd : FuncData} (F : FnP K "read_item" "read_item" (top 32) f fd) (hs : ∀ X : Cx, X.K = K → X.mg = mg → X.w = w → Hs K mg w X) (g_unmarked : Gf P w K mg base 1 "unmarked" 1 F_unmarked) (g_read_number : Gf P w K mg base 1 "read_number" 1 F_read_number) : FnG P w K mg base 2 f fd ["text", "starts"] (spD K mg 2 F_read_item) :=
  fn_Dd (N := ["text", "starts", "parts", "name", "distance", "start"]) F sc_read_item fun cdv A outer s H E b fit bd => by
  have room := bd.room
  have gd := bd.gd
  have hu := room.units
  have nd := sc_read_item.nd
  have hs : ∀ X : Cx, X.K = K → X.mg = mg → X.w = w → Hs K mg w X := hs
  exact (dss_cons (ds_set nd (i := 2) rfl (by first | exact .inl rfl | exact .inr rfl) (de_m fit PySem.F.plainAttrs_str PySem.F.slot_str_split PySem.F.type_str_split md_split (de_var (pv 0)) (da_cons de_str da_nil)))
   (dss_cons (ds_par rfl nd (i := 3) (j := 4) rfl rfl (by decide) rfl rfl (dr_cons .unsl (de_call fit bd.tk (g_unmarked.cl room (by omega) gd) (dr_cons .fz (de_sub fit hu (de_var (pv 2)) de_int) (fun _ => dr_nil))) (fun _ => (dr_cons .unsl (de_call (fitA fit) bd.tk (g_read_number.cl room (by omega) gd) (dr_cons .fz (de_sub (fitA fit) hu (de_var (pv 2)) (de_un (fitA fit) ud_neg de_int)) (fun _ => dr_nil))) (fun _ => dr_nil)))) (by rfl))
   (dss_cons (ds_if (dw_pt (dw_or (dt_cmp fit (od_neX hu) (de_callB fit cd_len (hs _ rfl rfl rfl).n_len (by kernel_rfl) (da_cons (de_var (pv 2)) da_nil)) de_int (nomark _)) (dw_or (dt_cmp fit (od_is) (de_var (pv 3)) de_non (nomark _)) (dw_or1 (dt_cmp fit (od_is) (de_var (pv 4)) de_non (nomark _)))))) (dss_one (ds_ret de_non)) dss_nil)
   (dss_cons (ds_if (dt_cmp fit (od_eq hu) (de_var (pv 4)) de_int (nomark _)) (dss_one (ds_ret (de_tup (da_cons (de_var (pv 3)) (da_cons de_int da_nil))))) dss_nil)
   (dss_cons (ds_set nd (i := 5) rfl (by first | exact .inl rfl | exact .inr rfl) (de_op fit od_sub (de_sub fit hu (de_var (pv 1)) (de_un fit ud_neg de_int)) (de_var (pv 4))))
   (dss_one (ds_ret (de_if (dt_cmp fit (od_in hu) (de_var (pv 5)) (de_var (pv 1)) (by rfl)) (de_tup (da_cons (de_var (pv 3)) (da_cons (de_op fit od_sub (de_op fit od_sub (de_callB fit cd_len (hs _ rfl rfl rfl).n_len (by kernel_rfl) (da_cons (de_var (pv 1)) da_nil)) de_int) (de_m fit PySem.F.plainAttrs_list PySem.F.slot_list_index PySem.F.type_list_index md_index (de_var (pv 1)) (da_cons (de_var (pv 5)) da_nil))) da_nil))) de_non))))))))
theorem sc_read_thing : FnScope ["text", "words", "body"] ["text"] (defScope (top 30)) := ⟨rfl, rfl, rfl, by decide +kernel, rfl, by decide +kernel, by decide +kernel⟩
theorem b_read_thing {f : Addr} {fd : FuncData} (F : FnP K "read_thing" "read_thing" (top 30) f fd) (hs : ∀ X : Cx, X.K = K → X.mg = mg → X.w = w → Hs K mg w X) (g_unmarked : Gf P w K mg base 1 "unmarked" 1 F_unmarked) : FnG P w K mg base 2 f fd ["text"] (spD K mg 1 F_read_thing) :=
  fn_Dd (N := ["text", "words", "body"]) F sc_read_thing fun cdv A outer s H E b fit bd => by
  have room := bd.room
  have gd := bd.gd
  have hu := room.units
  have nd := sc_read_thing.nd
  have hs : ∀ X : Cx, X.K = K → X.mg = mg → X.w = w → Hs K mg w X := hs
  exact (dss_cons (ds_if (dt_cmp fit (od_eq hu) (de_var (pv 0)) de_str (nomark _)) (dss_one (ds_ret (de_tup (da_cons de_str da_nil)))) dss_nil)
   (dss_cons (ds_set nd (i := 1) rfl (by first | exact .inl rfl | exact .inr rfl) (de_disp (l := [((mC (.str "f")), (mC (.str "file"))), ((mC (.str "l")), (mC (.str "link")))]) (dpp_cons (fun _ => de_str) (fun _ => de_str) (dpp_cons (fun _ => de_str) (fun _ => de_str) dpp_nil))))
   (dss_cons (ds_set nd (i := 2) rfl (by first | exact .inl rfl | exact .inr rfl) (de_call fit bd.tk (g_unmarked.cl room (by omega) gd) (dr_cons .fz (de_slice fit (de_var (pv 0)) (do_some de_int) do_none) (fun _ => dr_nil))))
   (dss_one (ds_ret (de_if (dw_pt (dw_or (dt_cmp fit (od_notin hu) (de_slice fit (de_var (pv 0)) do_none (do_some de_int)) (de_var (pv 1)) (by rfl)) (dw_or1 (dt_cmp fit (od_is) (de_var (pv 2)) de_non (nomark _))))) de_non (de_tup (da_cons (de_sub fit hu (de_var (pv 1)) (de_sub fit hu (de_var (pv 0)) de_int)) (da_cons (de_var (pv 2)) da_nil)))))))))
theorem sc_read_record : FnScope ["text", "starts", "parts", "items", "part"] ["text", "starts"] (defScope (top 33)) := ⟨rfl, rfl, rfl, by decide +kernel, rfl, by decide +kernel, by decide +kernel⟩
theorem b_read_record {f : Addr} {fd : FuncData} (F : FnP K "read_record" "read_record" (top 33) f fd) (hs : ∀ X : Cx, X.K = K → X.mg = mg → X.w = w → Hs K mg w X) (g_read_thing : Gf P w K mg base 2 "read_thing" 1 F_read_thing) (g_unmarked : Gf P w K mg base 1 "unmarked" 1 F_unmarked) (g_read_item : Gf P w K mg base 2 "read_item" 2 F_read_item) : FnG P w K mg base 3 f fd ["text", "starts"] (spD K mg 2 F_read_record) :=
  fn_Dd (N := ["text", "starts", "parts", "items", "part"]) F sc_read_record fun cdv A outer s H E b fit bd => by
  have room := bd.room
  have gd := bd.gd
  have hu := room.units
  have nd := sc_read_record.nd
  have hs : ∀ X : Cx, X.K = K → X.mg = mg → X.w = w → Hs K mg w X := hs
  exact (dss_cons (ds_if (dt_cmp fit (od_eq hu) (de_slice fit (de_var (pv 0)) do_none (do_some de_int)) de_str (nomark _)) (dss_cons (ds_set nd (i := 2) rfl (by first | exact .inl rfl | exact .inr rfl) (de_m fit PySem.F.plainAttrs_str PySem.F.slot_str_split PySem.F.type_str_split md_split (de_slice fit (de_var (pv 0)) (do_some de_int) do_none) (da_cons de_str da_nil)))
   (dss_one (ds_ret (de_if (dt_cmp fit (od_neX hu) (de_callB fit cd_len (hs _ rfl rfl rfl).n_len (by kernel_rfl) (da_cons (de_var (pv 2)) da_nil)) de_int (nomark _)) de_non (de_tup (da_cons de_str (da_cons (de_call fit bd.tk (g_unmarked.cl room (by omega) gd) (dr_cons .fz (de_sub fit hu (de_var (pv 2)) de_int) (fun _ => dr_nil))) (da_cons (de_call fit bd.tk (g_read_thing.cl room (by omega) gd) (dr_cons .fz (de_sub fit hu (de_var (pv 2)) de_int) (fun _ => dr_nil))) da_nil)))))))) dss_nil)
   (dss_cons (ds_if (dt_cmp fit (od_eq hu) (de_slice fit (de_var (pv 0)) do_none (do_some de_int)) de_str (nomark _)) (dss_one (ds_ret (de_tup (da_cons de_str (da_cons (de_call fit bd.tk (g_unmarked.cl room (by omega) gd) (dr_cons .fz (de_slice fit (de_var (pv 0)) (do_some de_int) do_none) (fun _ => dr_nil))) da_nil))))) dss_nil)
   (dss_cons (ds_if (dt_cmp fit (od_neX hu) (de_slice fit (de_var (pv 0)) do_none (do_some de_int)) de_str (nomark _)) (dss_one (ds_ret de_non)) dss_nil)
   (dss_cons (ds_set nd (i := 3) rfl (by first | exact .inl rfl | exact .inr rfl) (de_if (dt_cmp fit (od_neX hu) (de_var (pv 0)) de_str (nomark _)) (de_comp [("part", 4)] fit nd (di_seq fit (de_m fit PySem.F.plainAttrs_str PySem.F.slot_str_split PySem.F.type_str_split md_split (de_slice fit (de_var (pv 0)) (do_some de_int) do_none) (da_cons de_str da_nil))) (blk_sc (N' := ["text", "starts", "parts", "items", "part"]) (sc' := (defScope (top 33))) rfl rfl (by show BlkOk _ _ _ [("part", 4)]; exact ⟨rfl, by decide +kernel, by decide +kernel, by decide +kernel, by decide +kernel⟩)) (by decide) (fun _ _ _ _ _ _ fit8 => (dg_name nd rfl (by first | exact .inl rfl | exact .inr rfl))) (fun _ _ _ _ _ => dts_nil) (fun _ _ _ _ _ _ fit8 => (de_call fit8 takes0 (g_read_item.cl room (by omega) gd) (dr_cons .fz (de_var (pv 4)) (fun _ => (dr_cons .fz (de_var (pv 1)) (fun _ => dr_nil))))))) (de_lst da_nil)))
   (dss_one (ds_ret (de_tup (da_cons de_str (da_cons (de_callTy fit cd_tuple (hs _ rfl rfl rfl).n_tuple (by kernel_rfl) (da_cons (de_var (pv 3)) da_nil)) da_nil)))))))))
theorem sc_read : FnScope ["text", "records", "starts", "heads", "start", "number", "part", "record"] ["text"] (defScope (top 34)) := ⟨rfl, rfl, rfl, by decide +kernel, rfl, by decide +kernel, by decide +kernel⟩
theorem b_read {f : Addr} {fd : FuncData} (F : FnP K "read" "read" (top 34) f fd) (hs : ∀ X : Cx, X.K = K → X.mg = mg → X.w = w → Hs K mg w X) (g_read_record : Gf P w K mg base 3 "read_record" 2 F_read_record) (g_is_record : Gf P w K mg base 5 "is_record" 3 F_is_record) (g_Archive_init : ClI P w K mg base 6 "Archive" 2 F_Archive_init) (x_BadText : Xf P w K mg base "BadText" ["number"]) : FnG P w K mg base 8 f fd ["text"] (spD K mg 1 F_read) :=
  fn_Dd (N := ["text", "records", "starts", "heads", "start", "number", "part", "record"]) F sc_read fun cdv A outer s H E b fit bd => by
  have room := bd.room
  have gd := bd.gd
  have hu := room.units
  have nd := sc_read.nd
  have hs : ∀ X : Cx, X.K = K → X.mg = mg → X.w = w → Hs K mg w X := hs
  exact (dss_cons (ds_if (dt_not (dt_val (de_isi fit (isi_str) (.ty "str") (pe_bltn (x := "str") rfl (hs _ rfl rfl rfl).n_str (by kernel_rfl) rfl) (de_var (pv 0)) (hs _ rfl rfl rfl).n_isinstance))) (dss_one (ds_raiseF fit bd.tk x_BadText room (by omega) (da_cons de_int da_nil))) dss_nil)
   (dss_cons (ds_parT (is := [1, 2, 3, 4]) rfl (dr_cons .unsl (de_lst da_nil) (fun _ => (dr_cons .unsl (de_lst da_nil) (fun _ => (dr_cons .unsl de_dict0 (fun _ => (dr_cons .unsl de_int (fun _ => dr_nil)))))))) (pgs_cons (pg_name nd rfl (by first | exact .inl rfl | exact .inr rfl)) (pgs_cons (pg_name nd rfl (by first | exact .inl rfl | exact .inr rfl)) (pgs_cons (pg_name nd rfl (by first | exact .inl rfl | exact .inr rfl)) (pgs_cons (pg_name nd rfl (by first | exact .inl rfl | exact .inr rfl)) pgs_nil)))) rfl)
   (dss_cons (ds_for bd.hp (di_enumC fit (hs _ rfl rfl rfl).n_enumerate (da_cons (de_slice fit (de_m fit PySem.F.plainAttrs_str PySem.F.slot_str_split PySem.F.type_str_split md_split (de_var (pv 0)) (da_cons de_str da_nil)) do_none (do_some (de_un fit ud_neg de_int))) (da_cons de_int da_nil))) (dg_tup rfl fit rfl (dgs_cons (dg_name nd rfl (by first | exact .inl rfl | exact .inr rfl)) (dgs_cons (dg_name nd rfl (by first | exact .inl rfl | exact .inr rfl)) dgs_nil))) (dss_cons (ds_set nd (i := 2) rfl (by first | exact .inl rfl | exact .inr rfl) (de_op fit od_add (de_var (pv 2)) (de_lst (da_cons (de_var (pv 4)) da_nil))))
   (dss_cons (ds_set nd (i := 7) rfl (by first | exact .inl rfl | exact .inr rfl) (de_call fit bd.tk (g_read_record.cl room (by omega) gd) (dr_cons .fz (de_var (pv 6)) (fun _ => (dr_cons .fz (de_var (pv 2)) (fun _ => dr_nil))))))
   (dss_cons (ds_if (dt_not (dt_val (de_call fit bd.tk (g_is_record.cl room (by omega) gd) (dr_cons .fz (de_var (pv 7)) (fun _ => (dr_cons .fz (de_var (pv 5)) (fun _ => (dr_cons .keep (de_var (pv 3)) (fun _ => dr_nil))))))))) (dss_one (ds_raiseF fit bd.tk x_BadText room (by omega) (da_cons (de_var (pv 5)) da_nil))) dss_nil)
   (dss_cons (ds_if (dt_cmp fit (od_eq hu) (de_sub fit hu (de_var (pv 7)) de_int) de_str (nomark _)) (dss_one (ds_asgM (de_op fit od_add (de_mF fit PySem.F.plainAttrs_dict PySem.F.slot_dict_get PySem.F.type_dict_get (md_getF (hu1 hu)) (de_var (pv 3)) (da_cons (de_sub fit hu (de_var (pv 7)) de_int) (da_cons (de_lst da_nil) da_nil))) (de_lst (da_cons (de_var (pv 5)) da_nil))) (dgm_sub fit hu (de_var (pv 3)) (de_sub fit hu (de_var (pv 7)) de_int)))) dss_nil)
   (dss_cons (ds_expr (de_u fit PySem.F.plainAttrs_list PySem.F.slot_list_append PySem.F.type_list_append mu_append (de_var (pv 1)) (da_cons (de_var (pv 7)) da_nil)))
   (dss_one (ds_set nd (i := 4) rfl (by first | exact .inl rfl | exact .inr rfl) (de_op fit od_add (de_op fit od_add (de_var (pv 4)) (de_callB fit cd_len (hs _ rfl rfl rfl).n_len (by kernel_rfl) (da_cons (de_var (pv 6)) da_nil))) de_int)))))))))
   (dss_cons (ds_if (dt_cmp fit (od_neX hu) (de_var (pv 4)) (de_callB fit cd_len (hs _ rfl rfl rfl).n_len (by kernel_rfl) (da_cons (de_var (pv 0)) da_nil)) (nomark _)) (dss_one (ds_raiseF fit bd.tk x_BadText room (by omega) (da_cons (de_op fit od_add (de_callB fit cd_len (hs _ rfl rfl rfl).n_len (by kernel_rfl) (da_cons (de_var (pv 1)) da_nil)) de_int) da_nil))) dss_nil)
   (dss_one (ds_ret (de_make fit bd.tk g_Archive_init room (by omega) gd (dr_cons .fz (de_var (pv 1)) (fun _ => dr_nil)))))))))
theorem sc_thing_at : FnScope ["records", "number"] ["records", "number"] (defScope (top 36)) := ⟨rfl, rfl, rfl, by decide +kernel, rfl, by decide +kernel, by decide +kernel⟩
theorem b_thing_at {f : Addr} {fd : FuncData} (F : FnP K "thing_at" "thing_at" (top 36) f fd) (hs : ∀ X : Cx, X.K = K → X.mg = mg → X.w = w → Hs K mg w X)  : FnG P w K mg base 1 f fd ["records", "number"] (spD K mg 2 F_thing_at) :=
  fn_Dd (N := ["records", "number"]) F sc_thing_at fun cdv A outer s H E b fit bd => by
  have room := bd.room
  have gd := bd.gd
  have hu := room.units
  have nd := sc_thing_at.nd
  have hs : ∀ X : Cx, X.K = K → X.mg = mg → X.w = w → Hs K mg w X := hs
  exact (dss_one (ds_ret (de_sub fit hu (de_sub fit hu (de_var (pv 0)) (de_op fit od_sub (de_var (pv 1)) de_int)) de_int)))
theorem sc_from_front : FnScope ["text", "records", "last", "found", "number", "record", "name", "back"] ["text"] (defScope (top 37)) := ⟨rfl, rfl, rfl, by decide +kernel, rfl, by decide +kernel, by decide +kernel⟩
theorem b_from_front {f : Addr} {fd : FuncData} (F : FnP K "from_front" "from_front" (top 37) f fd) (hs : ∀ X : Cx, X.K = K → X.mg = mg → X.w = w → Hs K mg w X) (g_read : Gf P w K mg base 8 "read" 1 F_read) (g_whole_part : Gf P w K mg base 1 "whole_part" 1 F_whole_part) (g_Archive_records : ClP P w K mg base 1 "Archive" "records" F_Archive_records) (g_thing_at : Gf P w K mg base 1 "thing_at" 2 F_thing_at) : FnG P w K mg base 9 f fd ["text"] (spD K mg 1 F_from_front) :=
  fn_Dd (N := ["text", "records", "last", "found", "number", "record", "name", "back"]) F sc_from_front fun cdv A outer s H E b fit bd => by
  have room := bd.room
  have gd := bd.gd
  have hu := room.units
  have nd := sc_from_front.nd
  have hs : ∀ X : Cx, X.K = K → X.mg = mg → X.w = w → Hs K mg w X := hs
  exact (dss_cons (ds_set nd (i := 1) rfl (by first | exact .inl rfl | exact .inr rfl) (de_prop .fz fit g_Archive_records room (by omega) gd (de_call fit bd.tk (g_read.cl room (by omega) gd) (dr_cons .fz (de_call fit bd.tk (g_whole_part.cl room (by omega) gd) (dr_cons .fz (de_var (pv 0)) (fun _ => dr_nil))) (fun _ => dr_nil)))))
   (dss_cons (ds_par rfl nd (i := 2) (j := 3) rfl rfl (by decide) rfl rfl (dr_cons .unsl de_dict0 (fun _ => (dr_cons .unsl de_dict0 (fun _ => dr_nil)))) (by rfl))
   (dss_cons (ds_for bd.hp (di_enumC fit (hs _ rfl rfl rfl).n_enumerate (da_cons (de_var (pv 1)) (da_cons de_int da_nil))) (dg_tup rfl fit rfl (dgs_cons (dg_name nd rfl (by first | exact .inl rfl | exact .inr rfl)) (dgs_cons (dg_name nd rfl (by first | exact .inl rfl | exact .inr rfl)) dgs_nil))) (dss_one (ds_if (dt_cmp fit (od_eq hu) (de_sub fit hu (de_var (pv 5)) de_int) de_str (nomark _)) (dss_one (ds_for bd.hp (di_seq fit (de_sub fit hu (de_var (pv 5)) de_int)) (dg_tup rfl fit rfl (dgs_cons (dg_name nd rfl (by first | exact .inl rfl | exact .inr rfl)) (dgs_cons (dg_name nd rfl (by first | exact .inl rfl | exact .inr rfl)) dgs_nil))) (dss_one (ds_if (dt_cmp fit (od_eq hu) (de_mF fit PySem.F.plainAttrs_dict PySem.F.slot_dict_get PySem.F.type_dict_get (md_getF (hu1 hu)) (de_var (pv 2)) (da_cons (de_var (pv 6)) (da_cons de_int da_nil))) (de_if (dt_cmp fit (od_gt) (de_var (pv 7)) de_int (nomark _)) (de_op fit od_sub (de_var (pv 4)) (de_var (pv 7))) de_int) (nomark _)) (dss_one (ds_asgM (de_mF fit PySem.F.plainAttrs_dict PySem.F.slot_dict_get PySem.F.type_dict_get (md_getF (hu1 hu)) (de_var (pv 2)) (da_cons (de_var (pv 6)) (da_cons de_int da_nil))) (dgm_sub fit hu (de_var (pv 3)) (de_var (pv 6))))) dss_nil)))) (dss_one (ds_asgM (de_if (dt_cmp fit (od_eq hu) (de_sub fit hu (de_var (pv 5)) de_int) de_str (nomark _)) (de_var (pv 4)) de_int) (dgm_sub fit hu (de_var (pv 2)) (de_sub fit hu (de_var (pv 5)) de_int)))))))
   (dss_one (ds_ret (de_dcI [("name", 6), ("number", 4)] fit nd (pv 3) (blk_sc (N' := ["text", "records", "last", "found", "number", "record", "name", "back"]) (sc' := (defScope (top 37))) rfl rfl (by show BlkOk _ _ _ [("name", 6), ("number", 4)]; exact ⟨rfl, by decide +kernel, by decide +kernel, by decide +kernel, by decide +kernel⟩)) (by decide) (fun _ _ _ _ _ _ fit9 => (dg_tup rfl fit9 rfl (dgs_cons (dg_name nd rfl (by first | exact .inl rfl | exact .inr rfl)) (dgs_cons (dg_name nd rfl (by first | exact .inl rfl | exact .inr rfl)) dgs_nil)))) (fun _ _ _ _ _ => dts_one (fun _ fit9 => (dt_cmp fit9 (od_gt) (de_var (pv 4)) de_int (nomark _)))) (fun _ _ _ _ _ _ fit9 => (de_var (pv 6))) (fun _ _ _ _ _ _ fit9 => (de_call fit9 takes0 (g_thing_at.cl room (by omega) gd) (dr_cons .fz (de_var (pv 1)) (fun _ => (dr_cons .fz (de_var (pv 4)) (fun _ => dr_nil))))))))))))
theorem sc_from_end : FnScope ["text", "records", "number", "named", "name", "back"] ["text"] (defScope (top 38)) := ⟨rfl, rfl, rfl, by decide +kernel, rfl, by decide +kernel, by decide +kernel⟩
theorem b_from_end {f : Addr} {fd : FuncData} (F : FnP K "from_end" "from_end" (top 38) f fd) (hs : ∀ X : Cx, X.K = K → X.mg = mg → X.w = w → Hs K mg w X) (g_read : Gf P w K mg base 8 "read" 1 F_read) (g_whole_part : Gf P w K mg base 1 "whole_part" 1 F_whole_part) (g_Archive_records : ClP P w K mg base 1 "Archive" "records" F_Archive_records) (g_thing_at : Gf P w K mg base 1 "thing_at" 2 F_thing_at) : FnG P w K mg base 9 f fd ["text"] (spD K mg 1 F_from_end) :=
  fn_Dd (N := ["text", "records", "number", "named", "name", "back"]) F sc_from_end fun cdv A outer s H E b fit bd => by
  have room := bd.room
  have gd := bd.gd
  have hu := room.units
  have nd := sc_from_end.nd
  have hs : ∀ X : Cx, X.K = K → X.mg = mg → X.w = w → Hs K mg w X := hs
  exact (dss_cons (ds_set nd (i := 1) rfl (by first | exact .inl rfl | exact .inr rfl) (de_prop .fz fit g_Archive_records room (by omega) gd (de_call fit bd.tk (g_read.cl room (by omega) gd) (dr_cons .fz (de_call fit bd.tk (g_whole_part.cl room (by omega) gd) (dr_cons .fz (de_var (pv 0)) (fun _ => dr_nil))) (fun _ => dr_nil)))))
   (dss_cons (ds_for bd.hp (di_range3 (hs _ rfl rfl rfl).n_range (da_cons (de_callB fit cd_len (hs _ rfl rfl rfl).n_len (by kernel_rfl) (da_cons (de_var (pv 1)) da_nil)) (da_cons de_int (da_cons (de_un fit ud_neg de_int) da_nil)))) (dg_name nd rfl (by first | exact .inl rfl | exact .inr rfl)) (dss_one (ds_if (dt_cmp fit (od_eq hu) (de_sub fit hu (de_sub fit hu (de_var (pv 1)) (de_op fit od_sub (de_var (pv 2)) de_int)) de_int) de_str (nomark _)) (dss_cons (ds_set nd (i := 3) rfl (by first | exact .inl rfl | exact .inr rfl) (de_sub fit hu (de_sub fit hu (de_var (pv 1)) (de_op fit od_sub (de_var (pv 2)) de_int)) de_int))
   (dss_one (ds_ret (de_dc [("name", 4), ("back", 5)] fit nd (di_seq fit (de_var (pv 3))) (blk_sc (N' := ["text", "records", "number", "named", "name", "back"]) (sc' := (defScope (top 38))) rfl rfl (by show BlkOk _ _ _ [("name", 4), ("back", 5)]; exact ⟨rfl, by decide +kernel, by decide +kernel, by decide +kernel, by decide +kernel⟩)) (by decide) (fun _ _ _ _ _ _ fit10 => (dg_tup rfl fit10 rfl (dgs_cons (dg_name nd rfl (by first | exact .inl rfl | exact .inr rfl)) (dgs_cons (dg_name nd rfl (by first | exact .inl rfl | exact .inr rfl)) dgs_nil)))) (fun _ _ _ _ _ => dts_one (fun _ fit10 => (dt_cmp fit10 (od_gt) (de_var (pv 5)) de_int (nomark _)))) (fun _ _ _ _ _ _ fit10 => (de_var (pv 4))) (fun _ _ _ _ _ _ fit10 => (de_call fit10 takes0 (g_thing_at.cl room (by omega) gd) (dr_cons .fz (de_var (pv 1)) (fun _ => (dr_cons .fz (de_op (fitA fit10) od_sub (de_var (pv 2)) (de_var (pv 5))) (fun _ => dr_nil)))))))))) dss_nil)))
   (dss_one (ds_ret de_dict0))))
theorem sc_by_all : FnScope ["text", "records", "spoken", "found", "number", "name", "back"] ["text"] (defScope (top 39)) := ⟨rfl, rfl, rfl, by decide +kernel, rfl, by decide +kernel, by decide +kernel⟩
theorem b_by_all {f : Addr} {fd : FuncData} (F : FnP K "by_all" "by_all" (top 39) f fd) (hs : ∀ X : Cx, X.K = K → X.mg = mg → X.w = w → Hs K mg w X) (g_read : Gf P w K mg base 8 "read" 1 F_read) (g_whole_part : Gf P w K mg base 1 "whole_part" 1 F_whole_part) (g_Archive_records : ClP P w K mg base 1 "Archive" "records" F_Archive_records) (g_thing_at : Gf P w K mg base 1 "thing_at" 2 F_thing_at) : FnG P w K mg base 9 f fd ["text"] (spD K mg 1 F_by_all) :=
  fn_Dd (N := ["text", "records", "spoken", "found", "number", "name", "back"]) F sc_by_all fun cdv A outer s H E b fit bd => by
  have room := bd.room
  have gd := bd.gd
  have hu := room.units
  have nd := sc_by_all.nd
  have hs : ∀ X : Cx, X.K = K → X.mg = mg → X.w = w → Hs K mg w X := hs
  exact (dss_cons (ds_set nd (i := 1) rfl (by first | exact .inl rfl | exact .inr rfl) (de_prop .fz fit g_Archive_records room (by omega) gd (de_call fit bd.tk (g_read.cl room (by omega) gd) (dr_cons .fz (de_call fit bd.tk (g_whole_part.cl room (by omega) gd) (dr_cons .fz (de_var (pv 0)) (fun _ => dr_nil))) (fun _ => dr_nil)))))
   (dss_cons (ds_par rfl nd (i := 2) (j := 3) rfl rfl (by decide) rfl rfl (dr_cons .unsl de_dict0 (fun _ => (dr_cons .unsl de_dict0 (fun _ => dr_nil)))) (by rfl))
   (dss_cons (ds_for bd.hp (di_range3 (hs _ rfl rfl rfl).n_range (da_cons (de_callB fit cd_len (hs _ rfl rfl rfl).n_len (by kernel_rfl) (da_cons (de_var (pv 1)) da_nil)) (da_cons de_int (da_cons (de_un fit ud_neg de_int) da_nil)))) (dg_name nd rfl (by first | exact .inl rfl | exact .inr rfl)) (dss_one (ds_if (dt_cmp fit (od_eq hu) (de_sub fit hu (de_sub fit hu (de_var (pv 1)) (de_op fit od_sub (de_var (pv 4)) de_int)) de_int) de_str (nomark _)) (dss_one (ds_for bd.hp (di_seq fit (de_sub fit hu (de_sub fit hu (de_var (pv 1)) (de_op fit od_sub (de_var (pv 4)) de_int)) de_int)) (dg_tup rfl fit rfl (dgs_cons (dg_name nd rfl (by first | exact .inl rfl | exact .inr rfl)) (dgs_cons (dg_name nd rfl (by first | exact .inl rfl | exact .inr rfl)) dgs_nil))) (dss_cons (ds_if (dw_pt (dw_and (dt_cmp fit (od_notin hu) (de_var (pv 5)) (de_var (pv 2)) (by rfl)) (dw_and1 (dt_cmp fit (od_gt) (de_var (pv 6)) de_int (nomark _))))) (dss_one (ds_asgM (de_call fit bd.tk (g_thing_at.cl room (by omega) gd) (dr_cons .fz (de_var (pv 1)) (fun _ => (dr_cons .fz (de_op (fitA fit) od_sub (de_var (pv 4)) (de_var (pv 6))) (fun _ => dr_nil))))) (dgm_sub fit hu (de_var (pv 3)) (de_var (pv 5))))) dss_nil)
   (dss_one (ds_asgM de_bl (dgm_sub fit hu (de_var (pv 2)) (de_var (pv 5)))))))) dss_nil)))
   (dss_one (ds_ret (de_var (pv 3)))))))
theorem sc_law_told : FnScope ["text"] ["text"] (defScope (top 50)) := ⟨rfl, rfl, rfl, by decide +kernel, rfl, by decide +kernel, by decide +kernel⟩
theorem b_law_told {f : Addr} {fd : FuncData} (F : FnP K "_law_told" "_law_told" (top 50) f fd) (hs : ∀ X : Cx, X.K = K → X.mg = mg → X.w = w → Hs K mg w X) (g_by_all : Gf P w K mg base 9 "by_all" 1 F_by_all) (g_from_end : Gf P w K mg base 9 "from_end" 1 F_from_end) (g_from_front : Gf P w K mg base 9 "from_front" 1 F_from_front) : FnG P w K mg base 10 f fd ["text"] (spD K mg 1 F_law_told) :=
  fn_Dd (N := ["text"]) F sc_law_told fun cdv A outer s H E b fit bd => by
  have room := bd.room
  have gd := bd.gd
  have hu := room.units
  have nd := sc_law_told.nd
  have hs : ∀ X : Cx, X.K = K → X.mg = mg → X.w = w → Hs K mg w X := hs
  exact (dss_one (ds_ret (de_lst (da_cons (de_call fit bd.tk (g_from_front.cl room (by omega) gd) (dr_cons .fz (de_var (pv 0)) (fun _ => dr_nil))) (da_cons (de_call fit bd.tk (g_from_end.cl room (by omega) gd) (dr_cons .fz (de_var (pv 0)) (fun _ => dr_nil))) (da_cons (de_call fit bd.tk (g_by_all.cl room (by omega) gd) (dr_cons .fz (de_var (pv 0)) (fun _ => dr_nil))) da_nil))))))
theorem sc_Archive_cut : FnScope ["self", "number"] ["self", "number"] (defScope (cbody 20 9)) := ⟨rfl, rfl, rfl, by decide +kernel, rfl, by decide +kernel, by decide +kernel⟩
theorem b_Archive_cut {f : Addr} {fd : FuncData} (F : FnP K "cut" "Archive.cut" (cbody 20 9) f fd) (hs : ∀ X : Cx, X.K = K → X.mg = mg → X.w = w → Hs K mg w X) (g_within : Gf P w K mg base 2 "within" 3 F_within) (g_Archive_init : ClI P w K mg base 6 "Archive" 2 F_Archive_init) (x_NoRecord : Xf P w K mg base "NoRecord" ["number"]) : FnG P w K mg base 8 f fd ["self", "number"] (spD K mg 2 F_Archive_cut) :=
  fn_Dd (N := ["self", "number"]) F sc_Archive_cut fun cdv A outer s H E b fit bd => by
  have room := bd.room
  have gd := bd.gd
  have hu := room.units
  have nd := sc_Archive_cut.nd
  have hs : ∀ X : Cx, X.K = K → X.mg = mg → X.w = w → Hs K mg w X := hs
  exact (dss_cons (ds_if (dt_not (dt_val (de_call fit bd.tk (g_within.cl room (by omega) gd) (dr_cons .fz (de_var (pv 1)) (fun _ => (dr_cons .fz de_int (fun _ => (dr_cons .fz (de_callB (fitA (fitA fit)) cd_len (hs _ rfl rfl rfl).n_len (by kernel_rfl) (da_cons (de_fld (fitA (fitA fit)) (hs _ rfl rfl rfl).f_Archive_kept_records (de_var (pv 0))) da_nil)) (fun _ => dr_nil))))))))) (dss_one (ds_raiseF fit bd.tk x_NoRecord room (by omega) (da_cons (de_var (pv 1)) da_nil))) dss_nil)
   (dss_one (ds_ret (de_make fit bd.tk g_Archive_init room (by omega) gd (dr_cons .fz (de_slice fit (de_fld fit (hs _ rfl rfl rfl).f_Archive_kept_records (de_var (pv 0))) do_none (do_some (de_var (pv 1)))) (fun _ => dr_nil))))))
theorem sc_law : FnScope ["script", "k", "feed", "records", "archive", "text", "ends", "spots", "end", "spot", "number", "part", "turn"] ["script"] (defScope (top 51)) := ⟨rfl, rfl, rfl, by decide +kernel, rfl, by decide +kernel, by decide +kernel⟩
theorem b_law {f : Addr} {fd : FuncData} (F : FnP K "law" "law" (top 51) f fd) (hs : ∀ X : Cx, X.K = K → X.mg = mg → X.w = w → Hs K mg w X) (g_law_feed : Gf P w K mg base 1 "_law_feed" 2 F_law_feed) (g_law_records : Gf P w K mg base 5 "_law_records" 2 F_law_records) (g_law_take : Gf P w K mg base 1 "_law_take" 2 F_law_take) (g_Archive_init : ClI P w K mg base 6 "Archive" 2 F_Archive_init) (g_show : Gf P w K mg base 4 "show" 1 F_show) (g_Archive_cut : ClM P w K mg base 8 "Archive" "cut" 2 F_Archive_cut) (g_whole_part : Gf P w K mg base 1 "whole_part" 1 F_whole_part) (g_read : Gf P w K mg base 8 "read" 1 F_read) (g_Archive_eq : ClE P w K mg base 1 "Archive" F_Archive_eq) (g_law_told : Gf P w K mg base 10 "_law_told" 1 F_law_told) : FnG P w K mg base 11 f fd ["script"] (spD K mg 1 F_law) :=
  fn_Dd (N := ["script", "k", "feed", "records", "archive", "text", "ends", "spots", "end", "spot", "number", "part", "turn"]) F sc_law fun cdv A outer s H E b fit bd => by
  have room := bd.room
  have gd := bd.gd
  have hu := room.units
  have nd := sc_law.nd
  have hs : ∀ X : Cx, X.K = K → X.mg = mg → X.w = w → Hs K mg w X := hs
  exact (dss_cons (ds_for bd.hp (di_range1 (hs _ rfl rfl rfl).n_range (da_cons (de_callB fit (cd_max rfl) (hs _ rfl rfl rfl).n_max (by kernel_rfl) (da_cons de_int (da_cons (de_callB fit (cd_min rfl) (hs _ rfl rfl rfl).n_min (by kernel_rfl) (da_cons de_int (da_cons (de_callB fit cd_len (hs _ rfl rfl rfl).n_len (by kernel_rfl) (da_cons (de_var (pv 0)) da_nil)) da_nil))) da_nil))) da_nil)) (dg_name nd rfl (by first | exact .inl rfl | exact .inr rfl)) (dss_cons (ds_set nd (i := 2) rfl (by first | exact .inl rfl | exact .inr rfl) (de_call fit bd.tk (g_law_feed.cl room (by omega) gd) (dr_cons .fz (de_var (pv 0)) (fun _ => (dr_cons .fz (de_var (pv 1)) (fun _ => dr_nil))))))
   (dss_cons (ds_set nd (i := 3) rfl (by first | exact .inl rfl | exact .inr rfl) (de_call fit bd.tk (g_law_records.cl room (by omega) gd) (dr_cons .keep (de_var (pv 2)) (fun _ => (dr_cons .fz (de_op (fitA fit) od_add de_int (de_call (fitA fit) bd.tk (g_law_take.cl room (by omega) gd) (dr_cons .keep (de_var (pv 2)) (fun _ => (dr_cons .fz de_int (fun _ => dr_nil)))))) (fun _ => dr_nil))))))
   (dss_cons (ds_set nd (i := 4) rfl (by first | exact .inl rfl | exact .inr rfl) (de_make fit bd.tk g_Archive_init room (by omega) gd (dr_cons .fz (de_var (pv 3)) (fun _ => dr_nil))))
   (dss_cons (ds_set nd (i := 5) rfl (by first | exact .inl rfl | exact .inr rfl) (de_call fit bd.tk (g_show.cl room (by omega) gd) (dr_cons .fz (de_var (pv 4)) (fun _ => dr_nil))))
   (dss_cons (ds_setLc [("number", 10)] fit nd rfl rfl (di_range1 (hs _ rfl rfl rfl).n_range (da_cons (de_op fit od_add (de_callB fit cd_len (hs _ rfl rfl rfl).n_len (by kernel_rfl) (da_cons (de_var (pv 3)) da_nil)) de_int) da_nil)) (blk_sc (N' := ["script", "k", "feed", "records", "archive", "text", "ends", "spots", "end", "spot", "number", "part", "turn"]) (sc' := (defScope (top 51))) rfl rfl (by show BlkOk _ _ _ [("number", 10)]; exact ⟨rfl, by decide +kernel, by decide +kernel, by decide +kernel, by decide +kernel⟩)) (by decide) (fun _ _ _ _ _ _ fit11 => (dg_name nd rfl (by first | exact .inl rfl | exact .inr rfl))) (fun _ _ _ _ _ => dts_nil) (fun _ _ _ _ _ _ fit11 => (de_callB fit11 cd_len (hs _ rfl rfl rfl).n_len (by kernel_rfl) (da_cons (de_call fit11 takes0 (g_show.cl room (by omega) gd) (dr_cons .fz (de_meth .fz fit11 takes0 g_Archive_cut room (by omega) gd (de_var (pv 4)) (fun _ => (dr_cons .fz (de_var (pv 10)) (fun _ => dr_nil)))) (fun _ => dr_nil))) da_nil))))
   (dss_cons (ds_set nd (i := 7) rfl (by first | exact .inl rfl | exact .inr rfl) (de_op fit od_add (de_lst (da_cons de_int (da_cons (de_callB fit cd_len (hs _ rfl rfl rfl).n_len (by kernel_rfl) (da_cons (de_var (pv 5)) da_nil)) da_nil))) (de_comp [("turn", 12)] fit nd (di_range1 (hs _ rfl rfl rfl).n_range (da_cons de_int da_nil)) (blk_sc (N' := ["script", "k", "feed", "records", "archive", "text", "ends", "spots", "end", "spot", "number", "part", "turn"]) (sc' := (defScope (top 51))) rfl rfl (by show BlkOk _ _ _ [("turn", 12)]; exact ⟨rfl, by decide +kernel, by decide +kernel, by decide +kernel, by decide +kernel⟩)) (by decide) (fun _ _ _ _ _ _ fit12 => (dg_name nd rfl (by first | exact .inl rfl | exact .inr rfl))) (fun _ _ _ _ _ => dts_nil) (fun _ _ _ _ _ _ fit12 => (de_call fit12 takes0 (g_law_take.cl room (by omega) gd) (dr_cons .keep (de_var (pv 2)) (fun _ => (dr_cons .fz (de_op (fitA fit12) od_add (de_callB (fitA fit12) cd_len (hs _ rfl rfl rfl).n_len (by kernel_rfl) (da_cons (de_var (pv 5)) da_nil)) de_int) (fun _ => dr_nil)))))))))
   (dss_cons (ds_for bd.hp (di_seq fit (de_slice fit (de_var (pv 6)) (do_some de_int) (do_some de_int))) (dg_name nd rfl (by first | exact .inl rfl | exact .inr rfl)) (dss_one (ds_set nd (i := 7) rfl (by first | exact .inl rfl | exact .inr rfl) (de_op fit od_add (de_var (pv 7)) (de_lst (da_cons (de_op fit od_sub (de_var (pv 8)) de_int) (da_cons (de_var (pv 8)) da_nil)))))))
   (dss_one (ds_for bd.hp (di_seq fit (de_var (pv 7))) (dg_name nd rfl (by first | exact .inl rfl | exact .inr rfl)) (dss_cons (ds_set nd (i := 10) rfl (by first | exact .inl rfl | exact .inr rfl) (de_op fit od_sub (de_callB fit cd_len (hs _ rfl rfl rfl).n_len (by kernel_rfl) (da_cons (de_comp [("end", 8)] fit nd (di_seq fit (de_var (pv 6))) (blk_sc (N' := ["script", "k", "feed", "records", "archive", "text", "ends", "spots", "end", "spot", "number", "part", "turn"]) (sc' := (defScope (top 51))) rfl rfl (by show BlkOk _ _ _ [("end", 8)]; exact ⟨rfl, by decide +kernel, by decide +kernel, by decide +kernel, by decide +kernel⟩)) (by decide) (fun _ _ _ _ _ _ fit13 => (dg_name nd rfl (by first | exact .inl rfl | exact .inr rfl))) (fun _ _ _ _ _ => dts_one (fun _ fit13 => (dt_cmp fit13 (od_le) (de_var (pv 8)) (de_var (pv 9)) (nomark _)))) (fun _ _ _ _ _ _ fit13 => (de_var (pv 8)))) da_nil)) de_int))
   (dss_cons (ds_set nd (i := 11) rfl (by first | exact .inl rfl | exact .inr rfl) (de_call fit bd.tk (g_whole_part.cl room (by omega) gd) (dr_cons .fz (de_slice fit (de_var (pv 5)) do_none (do_some (de_var (pv 9)))) (fun _ => dr_nil))))
   (dss_cons (ds_if (dw_pt (dw_or (dt_cmp fit (od_neX hu) (de_var (pv 11)) (de_slice fit (de_var (pv 5)) do_none (do_some (de_sub fit hu (de_var (pv 6)) (de_var (pv 10))))) (nomark _)) (dw_or1 (dt_owne fit bd.tk g_Archive_eq room (by omega) gd (de_call fit bd.tk (g_read.cl room (by omega) gd) (dr_cons .fz (de_var (pv 11)) (fun _ => dr_nil))) (de_meth .fz fit bd.tk g_Archive_cut room (by omega) gd (de_var (pv 4)) (fun _ => (dr_cons .fz (de_var (pv 10)) (fun _ => dr_nil)))))))) (dss_one (ds_ret de_bl)) dss_nil)
   (dss_one (ds_if (dt_cmp fit (od_neX hu) (de_call fit bd.tk (g_law_told.cl room (by omega) gd) (dr_cons .fz (de_slice fit (de_var (pv 5)) do_none (do_some (de_var (pv 9)))) (fun _ => dr_nil))) (de_call fit bd.tk (g_law_told.cl room (by omega) gd) (dr_cons .fz (de_var (pv 11)) (fun _ => dr_nil))) (nomark _)) (dss_one (ds_ret de_bl)) dss_nil)))))))))))))))
   (dss_one (ds_ret de_bl)))
end
/-! the head -/
def dd_x_BadRecord : DefE := { at_ := mA "BadRecord" "__init__", name := "__init__", qual := "BadRecord.__init__", params := defArgs (cbody 3 0), body := defBody (cbody 3 0), scope := defScope (cbody 3 0) }
def dd_x_BadText : DefE := { at_ := mA "BadText" "__init__", name := "__init__", qual := "BadText.__init__", params := defArgs (cbody 5 0), body := defBody (cbody 5 0), scope := defScope (cbody 5 0) }
def dd_x_NoRecord : DefE := { at_ := mA "NoRecord" "__init__", name := "__init__", qual := "NoRecord.__init__", params := defArgs (cbody 4 0), body := defBody (cbody 4 0), scope := defScope (cbody 4 0) }
def dd_law_feed : DefE := { at_ := gA "_law_feed", name := "_law_feed", qual := "_law_feed", params := defArgs (top 41), body := defBody (top 41), scope := defScope (top 41) }
def dd_law_take : DefE := { at_ := gA "_law_take", name := "_law_take", qual := "_law_take", params := defArgs (top 42), body := defBody (top 42), scope := defScope (top 42) }
def dd_law_pick : DefE := { at_ := gA "_law_pick", name := "_law_pick", qual := "_law_pick", params := defArgs (top 43), body := defBody (top 43), scope := defScope (top 43) }
def dd_law_names : DefE := { at_ := gA "_law_names", name := "_law_names", qual := "_law_names", params := defArgs (top 44), body := defBody (top 44), scope := defScope (top 44) }
def dd_law_thing : DefE := { at_ := gA "_law_thing", name := "_law_thing", qual := "_law_thing", params := defArgs (top 47), body := defBody (top 47), scope := defScope (top 47) }
def dd_law_back : DefE := { at_ := gA "_law_back", name := "_law_back", qual := "_law_back", params := defArgs (top 45), body := defBody (top 45), scope := defScope (top 45) }
def dd_law_items : DefE := { at_ := gA "_law_items", name := "_law_items", qual := "_law_items", params := defArgs (top 46), body := defBody (top 46), scope := defScope (top 46) }
def dd_law_record : DefE := { at_ := gA "_law_record", name := "_law_record", qual := "_law_record", params := defArgs (top 48), body := defBody (top 48), scope := defScope (top 48) }
def dd_law_records : DefE := { at_ := gA "_law_records", name := "_law_records", qual := "_law_records", params := defArgs (top 49), body := defBody (top 49), scope := defScope (top 49) }
def dd_is_string : DefE := { at_ := gA "is_string", name := "is_string", qual := "is_string", params := defArgs (top 13), body := defBody (top 13), scope := defScope (top 13) }
def dd_are_parts : DefE := { at_ := gA "are_parts", name := "are_parts", qual := "are_parts", params := defArgs (top 14), body := defBody (top 14), scope := defScope (top 14) }
def dd_is_name : DefE := { at_ := gA "is_name", name := "is_name", qual := "is_name", params := defArgs (top 15), body := defBody (top 15), scope := defScope (top 15) }
def dd_is_thing : DefE := { at_ := gA "is_thing", name := "is_thing", qual := "is_thing", params := defArgs (top 16), body := defBody (top 16), scope := defScope (top 16) }
def dd_is_integer : DefE := { at_ := gA "is_integer", name := "is_integer", qual := "is_integer", params := defArgs (top 7), body := defBody (top 7), scope := defScope (top 7) }
def dd_within : DefE := { at_ := gA "within", name := "within", qual := "within", params := defArgs (top 8), body := defBody (top 8), scope := defScope (top 8) }
def dd_is_item : DefE := { at_ := gA "is_item", name := "is_item", qual := "is_item", params := defArgs (top 17), body := defBody (top 17), scope := defScope (top 17) }
def dd_are_items : DefE := { at_ := gA "are_items", name := "are_items", qual := "are_items", params := defArgs (top 18), body := defBody (top 18), scope := defScope (top 18) }
def dd_is_record : DefE := { at_ := gA "is_record", name := "is_record", qual := "is_record", params := defArgs (top 19), body := defBody (top 19), scope := defScope (top 19) }
def dd_Archive_init : DefE := { at_ := mA "Archive" "__init__", name := "__init__", qual := "Archive.__init__", params := defArgs (cbody 20 0), body := defBody (cbody 20 0), scope := defScope (cbody 20 0) }
def dd_Archive_records : DefE := { at_ := pA "Archive" "records", name := "records", qual := "Archive.records", params := defArgs (cbody 20 1), body := defBody (cbody 20 1), scope := defScope (cbody 20 1) }
def dd_marked : DefE := { at_ := gA "marked", name := "marked", qual := "marked", params := defArgs (top 25), body := defBody (top 25), scope := defScope (top 25) }
def dd_thing_text : DefE := { at_ := gA "thing_text", name := "thing_text", qual := "thing_text", params := defArgs (top 27), body := defBody (top 27), scope := defScope (top 27) }
def dd_record_text : DefE := { at_ := gA "record_text", name := "record_text", qual := "record_text", params := defArgs (top 28), body := defBody (top 28), scope := defScope (top 28) }
def dd_show : DefE := { at_ := gA "show", name := "show", qual := "show", params := defArgs (top 29), body := defBody (top 29), scope := defScope (top 29) }
def dd_whole_part : DefE := { at_ := gA "whole_part", name := "whole_part", qual := "whole_part", params := defArgs (top 35), body := defBody (top 35), scope := defScope (top 35) }
def dd_Archive_eq : DefE := { at_ := mA "Archive" "__eq__", name := "__eq__", qual := "Archive.__eq__", params := defArgs (cbody 20 6), body := defBody (cbody 20 6), scope := defScope (cbody 20 6) }
def dd_unmarked : DefE := { at_ := gA "unmarked", name := "unmarked", qual := "unmarked", params := defArgs (top 26), body := defBody (top 26), scope := defScope (top 26) }
def dd_read_number : DefE := { at_ := gA "read_number", name := "read_number", qual := "read_number", params := defArgs (top 31), body := defBody (top 31), scope := defScope (top 31) }
def dd_read_item : DefE := { at_ := gA "read_item", name := "read_item", qual := "read_item", params := defArgs (top 32), body := defBody (top 32), scope := defScope (top 32) }
def dd_read_thing : DefE := { at_ := gA "read_thing", name := "read_thing", qual := "read_thing", params := defArgs (top 30), body := defBody (top 30), scope := defScope (top 30) }
def dd_read_record : DefE := { at_ := gA "read_record", name := "read_record", qual := "read_record", params := defArgs (top 33), body := defBody (top 33), scope := defScope (top 33) }
def dd_read : DefE := { at_ := gA "read", name := "read", qual := "read", params := defArgs (top 34), body := defBody (top 34), scope := defScope (top 34) }
def dd_thing_at : DefE := { at_ := gA "thing_at", name := "thing_at", qual := "thing_at", params := defArgs (top 36), body := defBody (top 36), scope := defScope (top 36) }
def dd_from_front : DefE := { at_ := gA "from_front", name := "from_front", qual := "from_front", params := defArgs (top 37), body := defBody (top 37), scope := defScope (top 37) }
def dd_from_end : DefE := { at_ := gA "from_end", name := "from_end", qual := "from_end", params := defArgs (top 38), body := defBody (top 38), scope := defScope (top 38) }
def dd_by_all : DefE := { at_ := gA "by_all", name := "by_all", qual := "by_all", params := defArgs (top 39), body := defBody (top 39), scope := defScope (top 39) }
def dd_law_told : DefE := { at_ := gA "_law_told", name := "_law_told", qual := "_law_told", params := defArgs (top 50), body := defBody (top 50), scope := defScope (top 50) }
def dd_Archive_cut : DefE := { at_ := mA "Archive" "cut", name := "cut", qual := "Archive.cut", params := defArgs (cbody 20 9), body := defBody (cbody 20 9), scope := defScope (cbody 20 9) }
def dd_law : DefE := { at_ := gA "law", name := "law", qual := "law", params := defArgs (top 51), body := defBody (top 51), scope := defScope (top 51) }
def fn : List DefE := [dd_x_BadRecord, dd_x_BadText, dd_x_NoRecord, dd_law_feed, dd_law_take, dd_law_pick, dd_law_names, dd_law_thing, dd_law_back, dd_law_items, dd_law_record, dd_law_records, dd_is_string, dd_are_parts, dd_is_name, dd_is_thing, dd_is_integer, dd_within, dd_is_item, dd_are_items, dd_is_record, dd_Archive_init, dd_Archive_records, dd_marked, dd_thing_text, dd_record_text, dd_show, dd_whole_part, dd_Archive_eq, dd_unmarked, dd_read_number, dd_read_item, dd_read_thing, dd_read_record, dd_read, dd_thing_at, dd_from_front, dd_from_end, dd_by_all, dd_law_told, dd_Archive_cut, dd_law]
def fa : List He.Fa := [.free "abs", .free "all", .free "bool", .free "enumerate", .free "int", .free "isinstance", .free "len", .free "list", .free "max", .free "min", .free "range", .free "sorted", .free "str", .free "tuple", .free "zip", .str "DIGITS" "0123456789", .int "MOST_NAME" 60, .int "MOST_PARTS" 8, .int "MOST_TEXT" 200, .glo "Archive", .cls "Archive", .noat "Archive" "headed", .noat "Archive" "kept_records", .glo "MARKS", .glo "SIGNS", .glo "law", .noat "BadRecord" "number", .meth "BadRecord" "__init__", .glo "BadRecord", .noat "BadText" "number", .meth "BadText" "__init__", .glo "BadText", .noat "NoRecord" "number", .meth "NoRecord" "__init__", .glo "NoRecord", .glo "_law_feed", .glo "_law_take", .glo "_law_pick", .glo "_law_names", .glo "_law_thing", .glo "_law_back", .glo "_law_items", .glo "_law_record", .glo "_law_records", .glo "is_string", .glo "are_parts", .glo "is_name", .glo "is_thing", .glo "is_integer", .glo "within", .glo "is_item", .glo "are_items", .glo "is_record", .mkr "Archive", .glo "marked", .glo "thing_text", .glo "record_text", .glo "show", .glo "whole_part", .meth "Archive" "__eq__", .glo "unmarked", .glo "read_number", .glo "read_item", .glo "read_thing", .glo "read_record", .glo "read", .glo "thing_at", .glo "from_front", .glo "from_end", .glo "by_all", .glo "_law_told", .meth "Archive" "cut"]
def ts : List Tb := [(gA "MARKS", ["^", ";", ":", ","]), (gA "SIGNS", ["1", "2", "3", "4"])]
def ex : List (PySem.W.Frag → Bool) := [isoB "Archive" own_Archive, kdB (gA "MARKS") k_MARKS, kdB (gA "SIGNS") k_SIGNS, fun K => oexB K (He.ga K "BadRecord"), fun K => xfB K (He.ga K "BadRecord"), fun K => oexB K (He.ga K "BadText"), fun K => xfB K (He.ga K "BadText"), fun K => oexB K (He.ga K "NoRecord"), fun K => xfB K (He.ga K "NoRecord"), fun K => propB K "Archive" "records", fun K => decide (PySem.W.findIn K (.ref (He.ga K "Archive")) "__ne__" = some (some (.builtin "object.__ne__"))), fun K => decide (PySem.W.subIn K (.ref (He.ga K "Archive")) (.type "object") = some true)]
abbrev R : PySem.W.OpenRow := PySem.W.OpenLaw.row PySem.Challenge.rw_twolistings_k69_whole_cuts_at_any_charac
abbrev hk : PySem.W.Hook := hookY 6 fa fn ts ex
def ob (s : PySem.W.SharedT) : AlY := obsYG 6 fa fn ts ex (HandSHeadRun.getT s)
theorem ob_eq (s : PySem.W.SharedT) : ob s = hk.obs s.abs := obsYG_eq (HandSHeadRun.getT_eq s)
def loose : List Str := [("_wall" : Str), ("__name__" : Str), ("TwoError" : Str), ("BadRecord" : Str), ("NoRecord" : Str), ("BadText" : Str), ("is_integer" : Str), ("within" : Str), ("MOST_NAME" : Str), ("MOST_PARTS" : Str), ("MOST_TEXT" : Str), ("is_string" : Str), ("are_parts" : Str), ("is_name" : Str), ("is_thing" : Str), ("is_item" : Str), ("are_items" : Str), ("is_record" : Str), ("Archive" : Str), ("MARKS" : Str), ("SIGNS" : Str), ("DIGITS" : Str), ("marked" : Str), ("unmarked" : Str), ("thing_text" : Str), ("record_text" : Str), ("show" : Str), ("read_thing" : Str), ("read_number" : Str), ("read_item" : Str), ("read_record" : Str), ("read" : Str), ("whole_part" : Str), ("thing_at" : Str), ("from_front" : Str), ("from_end" : Str), ("by_all" : Str), ("_law_feed" : Str), ("_law_take" : Str), ("_law_pick" : Str), ("_law_names" : Str), ("_law_back" : Str), ("_law_items" : Str), ("_law_thing" : Str), ("_law_record" : Str), ("_law_records" : Str), ("_law_told" : Str)]
theorem run (w : World) : HandSHeadRun.RunEq R (PySem.W.view R.prog [51]) hk ob 4000 loose w := by
  refine PySem.W.byRow2 "special-get-raises" (P := fun w => HandSHeadRun.RunEq R (PySem.W.view R.prog [51]) hk ob 4000 loose w) (fun w => ?_) (fun w => ?_) w
  · intro os
    kernel_rfl
  · intro os
    kernel_rfl
theorem hs_of {w : World} {K : PySem.W.Frag} {h : Heap} {mg : Str → Option Value} (X : K.In h) (G : h.Ns mainGlobals mg) (c : SaysY fa fn ts ex w K) : ∀ Y : Cx, Y.K = K → Y.mg = mg → Y.w = w → Hs K mg w Y := by
  intro Y eK eM eW
  subst eK
  subst eM
  subst eW
  exact {
    K := rfl
    mg := rfl
    w := rfl
    n_abs := He.free_ok X G (c.fact 0 rfl)
    n_all := He.free_ok X G (c.fact 1 rfl)
    n_bool := He.free_ok X G (c.fact 2 rfl)
    n_enumerate := He.free_ok X G (c.fact 3 rfl)
    n_int := He.free_ok X G (c.fact 4 rfl)
    n_isinstance := He.free_ok X G (c.fact 5 rfl)
    n_len := He.free_ok X G (c.fact 6 rfl)
    n_list := He.free_ok X G (c.fact 7 rfl)
    n_max := He.free_ok X G (c.fact 8 rfl)
    n_min := He.free_ok X G (c.fact 9 rfl)
    n_range := He.free_ok X G (c.fact 10 rfl)
    n_sorted := He.free_ok X G (c.fact 11 rfl)
    n_str := He.free_ok X G (c.fact 12 rfl)
    n_tuple := He.free_ok X G (c.fact 13 rfl)
    n_zip := He.free_ok X G (c.fact 14 rfl)
    c_DIGITS := glo_str (He.str_ok X G (c.fact 15 rfl))
    c_MOST_NAME := glo_int (He.int_ok X G (c.fact 16 rfl))
    c_MOST_PARTS := glo_int (He.int_ok X G (c.fact 17 rfl))
    c_MOST_TEXT := glo_int (He.int_ok X G (c.fact 18 rfl))
    f_Archive_headed := ⟨_, (He.glo_ok X G (c.fact 19 rfl)), He.cls_ok (c.fact 20 rfl), He.noat_ok (c.fact 21 rfl)⟩
    f_Archive_kept_records := ⟨_, (He.glo_ok X G (c.fact 19 rfl)), He.cls_ok (c.fact 20 rfl), He.noat_ok (c.fact 22 rfl)⟩
    i_Archive := ClK.mk' rfl rfl X G (c.extra 0 rfl)
    k_MARKS := KdD.mk' rfl rfl rfl (He.glo_ok X G (c.fact 23 rfl)) (c.tab 0 rfl) (c.extra 1 rfl)
    k_SIGNS := KdD.mk' rfl rfl rfl (He.glo_ok X G (c.fact 24 rfl)) (c.tab 1 rfl) (c.extra 2 rfl)
    }
theorem facts {P : Program} {w : World} {K : PySem.W.Frag} {h : Heap} {mg : Str → Option Value} {f : Addr} (X : K.In h) (G : h.Ns mainGlobals mg) (hfa : mg ("law" : Str) = some (.ref f)) (c : SaysY fa fn ts ex w K) :
    ∃ fd : FuncData, (∀ (s : Shared) (v : Value), BindsTo s fd ⟨[v], []⟩ [("script", v)]) ∧ ∀ base : Heap, K.In base → base.Ns mainGlobals mg → FnG P w K mg base 11 f fd ["script"] (spD K mg 1 F_law) := by
  have hs := hs_of X G c
  obtain ⟨fd_x_BadRecord, D_x_BadRecord⟩ := c.def_ 0 (d := dd_x_BadRecord) rfl
  obtain ⟨fd_x_BadText, D_x_BadText⟩ := c.def_ 1 (d := dd_x_BadText) rfl
  obtain ⟨fd_x_NoRecord, D_x_NoRecord⟩ := c.def_ 2 (d := dd_x_NoRecord) rfl
  obtain ⟨fd_law_feed, D_law_feed⟩ := c.def_ 3 (d := dd_law_feed) rfl
  obtain ⟨fd_law_take, D_law_take⟩ := c.def_ 4 (d := dd_law_take) rfl
  obtain ⟨fd_law_pick, D_law_pick⟩ := c.def_ 5 (d := dd_law_pick) rfl
  obtain ⟨fd_law_names, D_law_names⟩ := c.def_ 6 (d := dd_law_names) rfl
  obtain ⟨fd_law_thing, D_law_thing⟩ := c.def_ 7 (d := dd_law_thing) rfl
  obtain ⟨fd_law_back, D_law_back⟩ := c.def_ 8 (d := dd_law_back) rfl
  obtain ⟨fd_law_items, D_law_items⟩ := c.def_ 9 (d := dd_law_items) rfl
  obtain ⟨fd_law_record, D_law_record⟩ := c.def_ 10 (d := dd_law_record) rfl
  obtain ⟨fd_law_records, D_law_records⟩ := c.def_ 11 (d := dd_law_records) rfl
  obtain ⟨fd_is_string, D_is_string⟩ := c.def_ 12 (d := dd_is_string) rfl
  obtain ⟨fd_are_parts, D_are_parts⟩ := c.def_ 13 (d := dd_are_parts) rfl
  obtain ⟨fd_is_name, D_is_name⟩ := c.def_ 14 (d := dd_is_name) rfl
  obtain ⟨fd_is_thing, D_is_thing⟩ := c.def_ 15 (d := dd_is_thing) rfl
  obtain ⟨fd_is_integer, D_is_integer⟩ := c.def_ 16 (d := dd_is_integer) rfl
  obtain ⟨fd_within, D_within⟩ := c.def_ 17 (d := dd_within) rfl
  obtain ⟨fd_is_item, D_is_item⟩ := c.def_ 18 (d := dd_is_item) rfl
  obtain ⟨fd_are_items, D_are_items⟩ := c.def_ 19 (d := dd_are_items) rfl
  obtain ⟨fd_is_record, D_is_record⟩ := c.def_ 20 (d := dd_is_record) rfl
  obtain ⟨fd_Archive_init, D_Archive_init⟩ := c.def_ 21 (d := dd_Archive_init) rfl
  obtain ⟨fd_Archive_records, D_Archive_records⟩ := c.def_ 22 (d := dd_Archive_records) rfl
  obtain ⟨fd_marked, D_marked⟩ := c.def_ 23 (d := dd_marked) rfl
  obtain ⟨fd_thing_text, D_thing_text⟩ := c.def_ 24 (d := dd_thing_text) rfl
  obtain ⟨fd_record_text, D_record_text⟩ := c.def_ 25 (d := dd_record_text) rfl
  obtain ⟨fd_show, D_show⟩ := c.def_ 26 (d := dd_show) rfl
  obtain ⟨fd_whole_part, D_whole_part⟩ := c.def_ 27 (d := dd_whole_part) rfl
  obtain ⟨fd_Archive_eq, D_Archive_eq⟩ := c.def_ 28 (d := dd_Archive_eq) rfl
  obtain ⟨fd_unmarked, D_unmarked⟩ := c.def_ 29 (d := dd_unmarked) rfl
  obtain ⟨fd_read_number, D_read_number⟩ := c.def_ 30 (d := dd_read_number) rfl
  obtain ⟨fd_read_item, D_read_item⟩ := c.def_ 31 (d := dd_read_item) rfl
  obtain ⟨fd_read_thing, D_read_thing⟩ := c.def_ 32 (d := dd_read_thing) rfl
  obtain ⟨fd_read_record, D_read_record⟩ := c.def_ 33 (d := dd_read_record) rfl
  obtain ⟨fd_read, D_read⟩ := c.def_ 34 (d := dd_read) rfl
  obtain ⟨fd_thing_at, D_thing_at⟩ := c.def_ 35 (d := dd_thing_at) rfl
  obtain ⟨fd_from_front, D_from_front⟩ := c.def_ 36 (d := dd_from_front) rfl
  obtain ⟨fd_from_end, D_from_end⟩ := c.def_ 37 (d := dd_from_end) rfl
  obtain ⟨fd_by_all, D_by_all⟩ := c.def_ 38 (d := dd_by_all) rfl
  obtain ⟨fd_law_told, D_law_told⟩ := c.def_ 39 (d := dd_law_told) rfl
  obtain ⟨fd_Archive_cut, D_Archive_cut⟩ := c.def_ 40 (d := dd_Archive_cut) rfl
  obtain ⟨fd_law, D_law⟩ := c.def_ 41 (d := dd_law) rfl
  have e := hfa.symm.trans (He.glo_ok X G (c.fact 25 rfl))
  cases e
  have b := FunD.bindsA (ps := ["script"]) D_law fun _ _ _ _ _ _ us hl => match us, hl with | [_], _ => rfl
  refine ⟨fd_law, fun s v => b s [v] rfl, fun base _ _ => ?_⟩
  have x_BadRecord : Xf P w K mg base "BadRecord" ["number"] := Xf.mk' (He.glo_ok X G (c.fact 28 rfl)) (oexB_ok (c.extra 3 rfl)) (c.extra 4 rfl) (by intro f hf; simp only [List.mem_cons, List.not_mem_nil, or_false] at hf; subst hf; exact (He.noat_ok (c.fact 26 rfl))) (He.meth_ok (c.fact 27 rfl)).at_ (beq_iff_eq.mp (He.meth_ok (c.fact 27 rfl)).fn) (ps := ["self", "number"]) (init1 D_x_BadRecord rfl ⟨rfl, rfl, rfl, by decide +kernel, rfl, by decide +kernel, by decide +kernel⟩ (by decide +kernel) (by decide +kernel) (by decide) (by decide) (oexB_ok (c.extra 3 rfl)) (He.noat_ok (c.fact 26 rfl))) (D_x_BadRecord.bindsN (fun _ _ _ _ _ _ us hl => match us, hl with | [_, _], _ => rfl))
  have x_BadText : Xf P w K mg base "BadText" ["number"] := Xf.mk' (He.glo_ok X G (c.fact 31 rfl)) (oexB_ok (c.extra 5 rfl)) (c.extra 6 rfl) (by intro f hf; simp only [List.mem_cons, List.not_mem_nil, or_false] at hf; subst hf; exact (He.noat_ok (c.fact 29 rfl))) (He.meth_ok (c.fact 30 rfl)).at_ (beq_iff_eq.mp (He.meth_ok (c.fact 30 rfl)).fn) (ps := ["self", "number"]) (init1 D_x_BadText rfl ⟨rfl, rfl, rfl, by decide +kernel, rfl, by decide +kernel, by decide +kernel⟩ (by decide +kernel) (by decide +kernel) (by decide) (by decide) (oexB_ok (c.extra 5 rfl)) (He.noat_ok (c.fact 29 rfl))) (D_x_BadText.bindsN (fun _ _ _ _ _ _ us hl => match us, hl with | [_, _], _ => rfl))
  have x_NoRecord : Xf P w K mg base "NoRecord" ["number"] := Xf.mk' (He.glo_ok X G (c.fact 34 rfl)) (oexB_ok (c.extra 7 rfl)) (c.extra 8 rfl) (by intro f hf; simp only [List.mem_cons, List.not_mem_nil, or_false] at hf; subst hf; exact (He.noat_ok (c.fact 32 rfl))) (He.meth_ok (c.fact 33 rfl)).at_ (beq_iff_eq.mp (He.meth_ok (c.fact 33 rfl)).fn) (ps := ["self", "number"]) (init1 D_x_NoRecord rfl ⟨rfl, rfl, rfl, by decide +kernel, rfl, by decide +kernel, by decide +kernel⟩ (by decide +kernel) (by decide +kernel) (by decide) (by decide) (oexB_ok (c.extra 7 rfl)) (He.noat_ok (c.fact 32 rfl))) (D_x_NoRecord.bindsN (fun _ _ _ _ _ _ us hl => match us, hl with | [_, _], _ => rfl))
  have g_law_feed : Gf P w K mg base 1 "_law_feed" 2 F_law_feed := Gf.of D_law_feed (He.glo_ok X G (c.fact 35 rfl)) (fun _ _ _ _ _ _ us hl => match us, hl with | [_, _], _ => rfl) (b_law_feed D_law_feed hs )
  have g_law_take : Gf P w K mg base 1 "_law_take" 2 F_law_take := Gf.of D_law_take (He.glo_ok X G (c.fact 36 rfl)) (fun _ _ _ _ _ _ us hl => match us, hl with | [_, _], _ => rfl) (b_law_take D_law_take hs )
  have g_law_pick : Gf P w K mg base 2 "_law_pick" 2 F_law_pick := Gf.of D_law_pick (He.glo_ok X G (c.fact 37 rfl)) (fun _ _ _ _ _ _ us hl => match us, hl with | [_, _], _ => rfl) (b_law_pick D_law_pick hs g_law_take)
  have g_law_names : Gf P w K mg base 1 "_law_names" 0 F_law_names := Gf.of D_law_names (He.glo_ok X G (c.fact 38 rfl)) (fun _ _ _ _ _ _ us hl => match us, hl with | [], _ => rfl) (b_law_names D_law_names hs )
  have g_law_thing : Gf P w K mg base 3 "_law_thing" 1 F_law_thing := Gf.of D_law_thing (He.glo_ok X G (c.fact 39 rfl)) (fun _ _ _ _ _ _ us hl => match us, hl with | [_], _ => rfl) (b_law_thing D_law_thing hs g_law_pick)
  have g_law_back : Gf P w K mg base 1 "_law_back" 3 F_law_back := Gf.of D_law_back (He.glo_ok X G (c.fact 40 rfl)) (fun _ _ _ _ _ _ us hl => match us, hl with | [_, _, _], _ => rfl) (b_law_back D_law_back hs )
  have g_law_items : Gf P w K mg base 3 "_law_items" 2 F_law_items := Gf.of D_law_items (He.glo_ok X G (c.fact 41 rfl)) (fun _ _ _ _ _ _ us hl => match us, hl with | [_, _], _ => rfl) (b_law_items D_law_items hs g_law_names g_law_back g_law_take g_law_pick)
  have g_law_record : Gf P w K mg base 4 "_law_record" 2 F_law_record := Gf.of D_law_record (He.glo_ok X G (c.fact 42 rfl)) (fun _ _ _ _ _ _ us hl => match us, hl with | [_, _], _ => rfl) (b_law_record D_law_record hs g_law_take g_law_pick g_law_names g_law_thing g_law_items)
  have g_law_records : Gf P w K mg base 5 "_law_records" 2 F_law_records := Gf.of D_law_records (He.glo_ok X G (c.fact 43 rfl)) (fun _ _ _ _ _ _ us hl => match us, hl with | [_, _], _ => rfl) (b_law_records D_law_records hs g_law_record)
  have g_is_string : Gf P w K mg base 1 "is_string" 2 F_is_string := Gf.of D_is_string (He.glo_ok X G (c.fact 44 rfl)) (fun _ _ _ _ _ _ us hl => match us, hl with | [_, _], _ => rfl) (b_is_string D_is_string hs )
  have g_are_parts : Gf P w K mg base 1 "are_parts" 1 F_are_parts := Gf.of D_are_parts (He.glo_ok X G (c.fact 45 rfl)) (fun _ _ _ _ _ _ us hl => match us, hl with | [_], _ => rfl) (b_are_parts D_are_parts hs )
  have g_is_name : Gf P w K mg base 2 "is_name" 1 F_is_name := Gf.of D_is_name (He.glo_ok X G (c.fact 46 rfl)) (fun _ _ _ _ _ _ us hl => match us, hl with | [_], _ => rfl) (b_is_name D_is_name hs g_is_string g_are_parts)
  have g_is_thing : Gf P w K mg base 3 "is_thing" 1 F_is_thing := Gf.of D_is_thing (He.glo_ok X G (c.fact 47 rfl)) (fun _ _ _ _ _ _ us hl => match us, hl with | [_], _ => rfl) (b_is_thing D_is_thing hs g_is_string g_is_name)
  have g_is_integer : Gf P w K mg base 1 "is_integer" 1 F_is_integer := Gf.of D_is_integer (He.glo_ok X G (c.fact 48 rfl)) (fun _ _ _ _ _ _ us hl => match us, hl with | [_], _ => rfl) (b_is_integer D_is_integer hs )
  have g_within : Gf P w K mg base 2 "within" 3 F_within := Gf.of D_within (He.glo_ok X G (c.fact 49 rfl)) (fun _ _ _ _ _ _ us hl => match us, hl with | [_, _, _], _ => rfl) (b_within D_within hs g_is_integer)
  have g_is_item : Gf P w K mg base 3 "is_item" 3 F_is_item := Gf.of D_is_item (He.glo_ok X G (c.fact 50 rfl)) (fun _ _ _ _ _ _ us hl => match us, hl with | [_, _, _], _ => rfl) (b_is_item D_is_item hs g_within)
  have g_are_items : Gf P w K mg base 4 "are_items" 3 F_are_items := Gf.of D_are_items (He.glo_ok X G (c.fact 51 rfl)) (fun _ _ _ _ _ _ us hl => match us, hl with | [_, _, _], _ => rfl) (b_are_items D_are_items hs g_is_item)
  have g_is_record : Gf P w K mg base 5 "is_record" 3 F_is_record := Gf.of D_is_record (He.glo_ok X G (c.fact 52 rfl)) (fun _ _ _ _ _ _ us hl => match us, hl with | [_, _, _], _ => rfl) (b_is_record D_is_record hs g_is_name g_is_thing g_are_items)
  have g_Archive_init : ClI P w K mg base 6 "Archive" 2 F_Archive_init := ⟨⟨_, _, _, ["self", "records"], (He.glo_ok X G (c.fact 19 rfl)), He.mkr_ok (c.fact 53 rfl), (b_Archive_init D_Archive_init hs g_is_record x_BadRecord), (D_Archive_init.bindsN (fun _ _ _ _ _ _ us hl => match us, hl with | [_, _], _ => rfl))⟩⟩
  have g_Archive_records : ClP P w K mg base 1 "Archive" "records" F_Archive_records := ⟨⟨_, _, _, _, ["self"], (He.glo_ok X G (c.fact 19 rfl)), He.cls_ok (c.fact 20 rfl), propB_ok (c.extra 9 rfl), (b_Archive_records D_Archive_records hs ), (D_Archive_records.bindsN (fun _ _ _ _ _ _ us hl => match us, hl with | [_], _ => rfl))⟩⟩
  have g_marked : Gf P w K mg base 1 "marked" 1 F_marked := Gf.of D_marked (He.glo_ok X G (c.fact 54 rfl)) (fun _ _ _ _ _ _ us hl => match us, hl with | [_], _ => rfl) (b_marked D_marked hs )
  have g_thing_text : Gf P w K mg base 2 "thing_text" 1 F_thing_text := Gf.of D_thing_text (He.glo_ok X G (c.fact 55 rfl)) (fun _ _ _ _ _ _ us hl => match us, hl with | [_], _ => rfl) (b_thing_text D_thing_text hs g_marked)
  have g_record_text : Gf P w K mg base 3 "record_text" 2 F_record_text := Gf.of D_record_text (He.glo_ok X G (c.fact 56 rfl)) (fun _ _ _ _ _ _ us hl => match us, hl with | [_, _], _ => rfl) (b_record_text D_record_text hs g_marked g_thing_text)
  have g_show : Gf P w K mg base 4 "show" 1 F_show := Gf.of D_show (He.glo_ok X G (c.fact 57 rfl)) (fun _ _ _ _ _ _ us hl => match us, hl with | [_], _ => rfl) (b_show D_show hs g_Archive_records g_record_text)
  have g_whole_part : Gf P w K mg base 1 "whole_part" 1 F_whole_part := Gf.of D_whole_part (He.glo_ok X G (c.fact 58 rfl)) (fun _ _ _ _ _ _ us hl => match us, hl with | [_], _ => rfl) (b_whole_part D_whole_part hs )
  have g_Archive_eq : ClE P w K mg base 1 "Archive" F_Archive_eq := ⟨⟨_, _, _, ["self", "other"], (He.glo_ok X G (c.fact 19 rfl)), (He.meth_ok (c.fact 59 rfl)).at_, (He.meth_ok (c.fact 59 rfl)).fn, of_decide_eq_true (c.extra 10 rfl), of_decide_eq_true (c.extra 11 rfl), (b_Archive_eq D_Archive_eq hs ), (D_Archive_eq.bindsN (fun _ _ _ _ _ _ us hl => match us, hl with | [_, _], _ => rfl))⟩⟩
  have g_unmarked : Gf P w K mg base 1 "unmarked" 1 F_unmarked := Gf.of D_unmarked (He.glo_ok X G (c.fact 60 rfl)) (fun _ _ _ _ _ _ us hl => match us, hl with | [_], _ => rfl) (b_unmarked D_unmarked hs )
  have g_read_number : Gf P w K mg base 1 "read_number" 1 F_read_number := Gf.of D_read_number (He.glo_ok X G (c.fact 61 rfl)) (fun _ _ _ _ _ _ us hl => match us, hl with | [_], _ => rfl) (b_read_number D_read_number hs )
  have g_read_item : Gf P w K mg base 2 "read_item" 2 F_read_item := Gf.of D_read_item (He.glo_ok X G (c.fact 62 rfl)) (fun _ _ _ _ _ _ us hl => match us, hl with | [_, _], _ => rfl) (b_read_item D_read_item hs g_unmarked g_read_number)
  have g_read_thing : Gf P w K mg base 2 "read_thing" 1 F_read_thing := Gf.of D_read_thing (He.glo_ok X G (c.fact 63 rfl)) (fun _ _ _ _ _ _ us hl => match us, hl with | [_], _ => rfl) (b_read_thing D_read_thing hs g_unmarked)
  have g_read_record : Gf P w K mg base 3 "read_record" 2 F_read_record := Gf.of D_read_record (He.glo_ok X G (c.fact 64 rfl)) (fun _ _ _ _ _ _ us hl => match us, hl with | [_, _], _ => rfl) (b_read_record D_read_record hs g_read_thing g_unmarked g_read_item)
  have g_read : Gf P w K mg base 8 "read" 1 F_read := Gf.of D_read (He.glo_ok X G (c.fact 65 rfl)) (fun _ _ _ _ _ _ us hl => match us, hl with | [_], _ => rfl) (b_read D_read hs g_read_record g_is_record g_Archive_init x_BadText)
  have g_thing_at : Gf P w K mg base 1 "thing_at" 2 F_thing_at := Gf.of D_thing_at (He.glo_ok X G (c.fact 66 rfl)) (fun _ _ _ _ _ _ us hl => match us, hl with | [_, _], _ => rfl) (b_thing_at D_thing_at hs )
  have g_from_front : Gf P w K mg base 9 "from_front" 1 F_from_front := Gf.of D_from_front (He.glo_ok X G (c.fact 67 rfl)) (fun _ _ _ _ _ _ us hl => match us, hl with | [_], _ => rfl) (b_from_front D_from_front hs g_read g_whole_part g_Archive_records g_thing_at)
  have g_from_end : Gf P w K mg base 9 "from_end" 1 F_from_end := Gf.of D_from_end (He.glo_ok X G (c.fact 68 rfl)) (fun _ _ _ _ _ _ us hl => match us, hl with | [_], _ => rfl) (b_from_end D_from_end hs g_read g_whole_part g_Archive_records g_thing_at)
  have g_by_all : Gf P w K mg base 9 "by_all" 1 F_by_all := Gf.of D_by_all (He.glo_ok X G (c.fact 69 rfl)) (fun _ _ _ _ _ _ us hl => match us, hl with | [_], _ => rfl) (b_by_all D_by_all hs g_read g_whole_part g_Archive_records g_thing_at)
  have g_law_told : Gf P w K mg base 10 "_law_told" 1 F_law_told := Gf.of D_law_told (He.glo_ok X G (c.fact 70 rfl)) (fun _ _ _ _ _ _ us hl => match us, hl with | [_], _ => rfl) (b_law_told D_law_told hs g_by_all g_from_end g_from_front)
  have g_Archive_cut : ClM P w K mg base 8 "Archive" "cut" 2 F_Archive_cut := ⟨⟨_, _, _, ["self", "number"], (He.glo_ok X G (c.fact 19 rfl)), He.cls_ok (c.fact 20 rfl), He.meth_ok (c.fact 71 rfl), (b_Archive_cut D_Archive_cut hs g_within g_Archive_init x_NoRecord), (D_Archive_cut.bindsN (fun _ _ _ _ _ _ us hl => match us, hl with | [_, _], _ => rfl))⟩⟩
  exact b_law D_law hs g_law_feed g_law_records g_law_take g_Archive_init g_show g_Archive_cut g_whole_part g_read g_Archive_eq g_law_told
end LW

open PySem PySem.W PySem.Calls PyProof.Rows
theorem PySem.Challenge.cw_twolistings_k69_whole_cuts_at_any_charac_holds : PySem.Challenge.rw_twolistings_k69_whole_cuts_at_any_charac.Holds := by
  w_on; o_law
  refine HandSHeadRun.head_any (r := OpenLaw.row PySem.Challenge.rw_twolistings_k69_whole_cuts_at_any_charac) (q := view (OpenLaw.row PySem.Challenge.rw_twolistings_k69_whole_cuts_at_any_charac).prog [51]) (H := LW.hk) (ob := LW.ob) (M := 4000) (loose := LW.loose) (d := HandSHeadRun.topDef (OpenLaw.row PySem.Challenge.rw_twolistings_k69_whole_cuts_at_any_charac).prog 51) (kwd := []) LW.ob_eq
    (by kernel_rfl) (fun s => by kernel_rfl) LW.run (by kernel_rfl) (by kernel_rfl) (by kernel_rfl) (by rfl) (by first | assumption | decide +kernel) (by decide +kernel) ⟨rfl, rfl, rfl, rfl, rfl, by decide +kernel⟩ ?hw ?hc
  case hw => w_witness2
  case hc =>
    refine DL.walk_ofG (l := PySem.Challenge.rw_twolistings_k69_whole_cuts_at_any_charac) (n := 63) (k := 11) (x := "script") rfl (by decide) (by kernel_rfl) ⟨rfl, by decide, by decide⟩ ?F
    intro w mg fa h Y G hmg0
    obtain ⟨K, KX, c⟩ := Y
    have hmg : mg ("law" : PySem.Str) = some (.ref fa) := by
      have e : (HandSHeadRun.topDef (OpenLaw.row PySem.Challenge.rw_twolistings_k69_whole_cuts_at_any_charac).prog 51).name = ("law" : PySem.Str) := by kernel_rfl
      rw [← e]
      exact hmg0
    obtain ⟨fd, hb, hF⟩ := LW.facts (P := (PySem.Challenge.rw_twolistings_k69_whole_cuts_at_any_charac).prog) (w := w) KX G hmg c
    exact ⟨K, fd, LW.F_law, KX, hb, fun ns hl => LW.math ns hl, hF⟩
