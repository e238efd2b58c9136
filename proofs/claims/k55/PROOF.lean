import PyProof.Rows.All
import Wide.All
import OpenK.AllK
import Wide.FinOn
import HandS.ForMost
import HandS.Exc
import HandS.TryOnly
import HandS.ExcOwn
import HandS.WordsExc
import HandS.Small
import PyProof.NeKinds
import PyProof.EqKinds
import KE.KEqNest
import HandS.RaiseMore
import HandS.IsInst
import HandS.TupAny
import HandS.More
import HandS.Finally
import HandS.HeadEnd
import HandS.EndBits
import PyProof.ReprRoads
import HandS.Defaults
import HandS.HeadHook2
import HandS.Style
import HandS.Head0
import HandS.Head1
import HandS.Head2
import HandS.HeadHook1
import PySem.Challenge.RW_twolistings_k55_whole_round_by_needs
set_option Elab.async false
set_option linter.all false
set_option maxRecDepth 100000
set_option maxHeartbeats 4000000
/-! DL1: data, slots, the meaning of slots and heaps. -/
namespace DL
open PySem PySem.Spec L2

/-- a Python value as plain data -/
inductive D where
  | non | bl (b : Bool) | int (i : Int) | str (s : Str)
  | tup (l : List D) | lst (l : List D) | dct (l : List (D × D)) | ins (c : Str) (fs : List (Str × D))
  | scr (l : List Int)
  deriving Inhabited

def DKey : D → Key → Prop
  | .int i, .inl j => i = j
  | .str s, .inr t => s = t
  | _, _ => False

section
variable (K : PySem.W.Frag) (mg : Str → Option Value) (F : Hp)
mutual
def Rep : D → V → Prop
  | .non, v => v = .non
  | .bl b, v => v = .bl b
  | .int i, v => v = .int i
  | .str s, v => v = .str s
  | .tup ds, v => ∃ a xs, v = .ref a ∧ SqT K F a xs ∧ RepL ds xs
  | .lst ds, v => ∃ a xs, v = .ref a ∧ F a = some (.lst xs) ∧ RepL ds xs
  | .dct kvs, v => ∃ a hk, v = .ref a ∧ F a = some (.dK hk) ∧ RepK kvs hk
  | .ins c fs, v => ∃ a C dx vs, v = .ref a ∧ mg c = some (.ref C) ∧ F a = some (.ins C dx vs) ∧ RepF fs vs
  | .scr ns, v => ∃ a, v = .ref a ∧ SqL K F a (ns.map V.int)
def RepL : List D → List V → Prop
  | [], vs => vs = []
  | d :: ds, vs => ∃ v r, vs = v :: r ∧ Rep d v ∧ RepL ds r
def RepK : List (D × D) → List (Key × V) → Prop
  | [], hk => hk = []
  | (k, d) :: r, hk => ∃ kk v s, hk = (kk, v) :: s ∧ DKey k kk ∧ Rep d v ∧ RepK r s
def RepF : List (Str × D) → List (Str × V) → Prop
  | [], hk => hk = []
  | (k, d) :: r, hk => ∃ v s, hk = (k, v) :: s ∧ Rep d v ∧ RepF r s
end
end
section
variable {K : PySem.W.Frag} {mg : Str → Option Value} {F F' : Hp}
theorem sqT_mono (h : Same F F') {a : Addr} {xs : List V} (e : SqT K F a xs) : SqT K F' a xs := by
  rcases e with (e | ⟨o, e⟩) | e
  · exact .inl (.inl (h _ _ e))
  · exact .inl (.inr ⟨o, h _ _ e⟩)
  · exact .inr e
mutual
theorem Rep.mono (h : Same F F') : ∀ {d : D} {v : V}, Rep K mg F d v → Rep K mg F' d v
  | .non, _, r => by unfold Rep at r ⊢; exact r
  | .bl _, _, r => by unfold Rep at r ⊢; exact r
  | .int _, _, r => by unfold Rep at r ⊢; exact r
  | .str _, _, r => by unfold Rep at r ⊢; exact r
  | .tup ds, _, r => by
    unfold Rep at r ⊢
    obtain ⟨a, xs, e, q, l⟩ := r
    exact ⟨a, xs, e, sqT_mono h q, RepL.mono h l⟩
  | .lst ds, _, r => by
    unfold Rep at r ⊢
    obtain ⟨a, xs, e, q, l⟩ := r
    exact ⟨a, xs, e, h _ _ q, RepL.mono h l⟩
  | .dct kvs, _, r => by
    unfold Rep at r ⊢
    obtain ⟨a, xs, e, q, l⟩ := r
    exact ⟨a, xs, e, h _ _ q, RepK.mono h l⟩
  | .ins c fs, _, r => by
    unfold Rep at r ⊢
    obtain ⟨a, C, dx, vs, e, m, q, l⟩ := r
    exact ⟨a, C, dx, vs, e, m, h _ _ q, RepF.mono h l⟩
  | .scr ns, _, r => by
    unfold Rep at r ⊢
    obtain ⟨a, e, q⟩ := r
    exact ⟨a, e, Same.seq h q⟩
theorem RepL.mono (h : Same F F') : ∀ {d : List D} {v : List V}, RepL K mg F d v → RepL K mg F' d v
  | [], _, r => by unfold RepL at r ⊢; exact r
  | d :: ds, _, r => by
    unfold RepL at r ⊢
    obtain ⟨v, s, e, q, l⟩ := r
    exact ⟨v, s, e, Rep.mono h q, RepL.mono h l⟩
theorem RepK.mono (h : Same F F') : ∀ {d : List (D × D)} {v : List (Key × V)}, RepK K mg F d v → RepK K mg F' d v
  | [], _, r => by unfold RepK at r ⊢; exact r
  | (k, d) :: ds, _, r => by
    unfold RepK at r ⊢
    obtain ⟨kk, v, s, e, q, l, m⟩ := r
    exact ⟨kk, v, s, e, q, Rep.mono h l, RepK.mono h m⟩
theorem RepF.mono (h : Same F F') : ∀ {d : List (Str × D)} {v : List (Str × V)}, RepF K mg F d v → RepF K mg F' d v
  | [], _, r => by unfold RepF at r ⊢; exact r
  | (k, d) :: ds, _, r => by
    unfold RepF at r ⊢
    obtain ⟨v, s, e, q, l⟩ := r
    exact ⟨v, s, e, Rep.mono h q, RepF.mono h l⟩
end
end

/-! ### slots -/
inductive Sl where
  | un | fz (d : D) | ow (d : D) | bo (d : D)
  deriving Inhabited
abbrev Env := List Sl
def Sl.held : Sl → Bool
  | .ow _ => true
  | .bo _ => true
  | _ => false
def Sl.data? : Sl → Option D
  | .fz d => some d
  | .ow d => some d
  | .bo d => some d
  | .un => none
/-- an expression's value: frozen data, what a slot holds, a new object of one's own -/
inductive AV where
  | fz (d : D) | sl (i : Nat) | ow (d : D)
  deriving Inhabited
structure Exn where
  c : Str
  fs : List (Str × D)
  deriving Inhabited
inductive R (α : Type) where
  | ok (a : α) (ρ : Env) | ex (e : Exn) (ρ : Env) | no
abbrev M (α : Type) := Env → R α
def M.ret {α : Type} (a : α) : M α := fun ρ => .ok a ρ
def M.bnd {α β : Type} (m : M α) (f : α → M β) : M β := fun ρ => match m ρ with
  | .ok a ρ' => f a ρ'
  | .ex e ρ' => .ex e ρ'
  | .no => .no
def M.stuck {α : Type} : M α := fun _ => .no
def rd : AV → M D
  | .fz d => M.ret d
  | .ow d => M.ret d
  | .sl i => fun ρ => match (ρ[i]?).bind Sl.data? with
    | some d => .ok d ρ
    | none => .no
def frz : AV → M D
  | .fz d => M.ret d
  | .ow d => M.ret d
  | .sl i => fun ρ => match ρ[i]? with
    | some (.fz d) => .ok d ρ
    | some (.ow d) => .ok d (ρ.set i (.fz d))
    | _ => .no
def stab : AV → AV
  | .ow d => .fz d
  | a => a

/-- a call's ground: what stood at the entry, the frozen part there, the borrowed slots, the locked dicts -/
structure Bs where
  K : PySem.W.Frag
  mg : Str → Option Value
  H_0 : Hp
  F_0 : Hp
  B : List (Nat × Addr)
  L : List Addr
  P : List (Addr × HO)

def OwnAt (K : PySem.W.Frag) (mg : Str → Option Value) (F H : Hp) (a : Addr) : D → Prop
  | .lst ds => ∃ xs, H a = some (.lst xs) ∧ RepL K mg F ds xs
  | .dct kvs => ∃ hk, H a = some (.dK hk) ∧ RepK K mg F kvs hk
  | .ins c fs => ∃ C dx vs, mg c = some (.ref C) ∧ H a = some (.ins C dx vs) ∧ RepF K mg F fs vs
  | _ => False
theorem OwnAt.mono {K : PySem.W.Frag} {mg : Str → Option Value} {F F' H H' : Hp} {a : Addr} (hF : Same F F') (hH : ∀ o, H a = some o → H' a = some o) : ∀ {d : D}, OwnAt K mg F H a d → OwnAt K mg F' H' a d
  | .lst ds, ⟨xs, e, r⟩ => ⟨xs, hH _ e, r.mono hF⟩
  | .dct ds, ⟨xs, e, r⟩ => ⟨xs, hH _ e, r.mono hF⟩
  | .ins c ds, ⟨C, dx, xs, m, e, r⟩ => ⟨C, dx, xs, m, hH _ e, r.mono hF⟩
theorem OwnAt.some {K : PySem.W.Frag} {mg : Str → Option Value} {F H : Hp} {a : Addr} : ∀ {d : D}, OwnAt K mg F H a d → ∃ o, H a = .some o
  | .lst ds, ⟨xs, e, r⟩ => ⟨_, e⟩
  | .dct ds, ⟨xs, e, r⟩ => ⟨_, e⟩
  | .ins c ds, ⟨C, dx, xs, m, e, r⟩ => ⟨_, e⟩
/-- once its object is frozen -/
theorem OwnAt.rep {K : PySem.W.Frag} {mg : Str → Option Value} {F F' H : Hp} {a : Addr} (hF : Same F F') (hH : F' a = H a) : ∀ {d : D}, OwnAt K mg F H a d → Rep K mg F' d (.ref a)
  | .lst ds, ⟨xs, e, r⟩ => by unfold Rep; exact ⟨a, xs, rfl, hH.trans e, r.mono hF⟩
  | .dct ds, ⟨xs, e, r⟩ => by unfold Rep; exact ⟨a, xs, rfl, hH.trans e, r.mono hF⟩
  | .ins c ds, ⟨C, dx, xs, m, e, r⟩ => by unfold Rep; exact ⟨a, C, dx, xs, rfl, m, hH.trans e, r.mono hF⟩
/-- what may be read as data -/
def RepD (K : PySem.W.Frag) (mg : Str → Option Value) (F H : Hp) (d : D) (v : V) : Prop := Rep K mg F d v ∨ ∃ a, v = .ref a ∧ OwnAt K mg F H a d

/-- the frozen part lies in the heap (a dict may be locked) -/
def Sub (F H : Hp) : Prop := ∀ a o, F a = some o → H a = some o ∨ ∃ ob kvs, o = .dK kvs ∧ H a = some (.frz ob o)
def SlOk (b : Bs) (F H : Hp) : Sl → Option V → Prop
  | .un, _ => True
  | .fz d, x => ∃ v, x = some v ∧ Rep b.K b.mg F d v
  | .ow d, x => ∃ a, x = some (.ref a) ∧ F a = none ∧ b.H_0 a = none ∧ OwnAt b.K b.mg F H a d
  | .bo d, x => ∃ a, x = some (.ref a) ∧ F a = none ∧ a ∈ b.B.map (·.2) ∧ OwnAt b.K b.mg F H a d
/-- apart from what the slots hold -/
def Apart (ρ : Env) (σ : St) (a : Addr) : Prop := ∀ (j : Nat) (s : Sl), ρ[j]? = some s → s.held = true → σ[j]? ≠ some (some (.ref a))
structure Ok (b : Bs) (ρ : Env) (F H : Hp) (σ : St) : Prop where
  sub : Sub F H
  old : ∀ a o, b.H_0 a = some o → a ∉ b.B.map (·.2) → H a = some o ∨ (a ∈ b.L ∧ ∃ ob, H a = some (.frz ob o))
  ext : Same b.F_0 F
  new : ∀ a o, F a = some o → b.F_0 a = some o ∨ b.H_0 a = none
  len : ρ.length = σ.length
  slot : ∀ (i : Nat) (s : Sl), ρ[i]? = some s → SlOk b F H s ((σ[i]?).getD none)
  sep : ∀ (i j : Nat) (s s' : Sl) (a : Addr), ρ[i]? = some s → ρ[j]? = some s' → s.held = true → s'.held = true → σ[i]? = some (some (.ref a)) → σ[j]? = some (some (.ref a)) → i = j
  bor : ∀ p ∈ b.B, σ[p.1]? = some (some (.ref p.2)) ∧ ∃ d, ρ[p.1]? = some (.bo d)
  prot : ∀ p ∈ b.P, H p.1 = some p.2 ∧ F p.1 = none ∧ Apart ρ σ p.1
def RepA (b : Bs) (F H : Hp) (σ : St) (ρ : Env) : AV → V → Prop
  | .fz d, v => Rep b.K b.mg F d v
  | .sl i, v => σ[i]? = some (some v)
  | .ow d, v => ∃ a, v = .ref a ∧ F a = none ∧ b.H_0 a = none ∧ OwnAt b.K b.mg F H a d ∧ Apart ρ σ a ∧ ∀ p ∈ b.P, p.1 ≠ a
end DL

namespace DL
open PySem PySem.Spec L2

theorem RepL.len {K : PySem.W.Frag} {mg : Str → Option Value} {F : Hp} : ∀ {ds : List D} {vs : List V}, RepL K mg F ds vs → ds.length = vs.length
  | [], _, r => by unfold RepL at r; rw [r]; rfl
  | d :: ds, _, r => by
    unfold RepL at r
    obtain ⟨v, s, rfl, _, q⟩ := r
    rw [List.length_cons, List.length_cons, RepL.len q]
theorem RepL.snoc {K : PySem.W.Frag} {mg : Str → Option Value} {F : Hp} {d : D} {v : V} (h : Rep K mg F d v) : ∀ {ds : List D} {vs : List V}, RepL K mg F ds vs → RepL K mg F (ds ++ [d]) (vs ++ [v])
  | [], _, r => by
    unfold RepL at r
    subst r
    show RepL K mg F [d] [v]
    unfold RepL
    refine ⟨v, [], rfl, h, ?_⟩
    unfold RepL
    rfl
  | c :: ds, _, r => by
    unfold RepL at r
    obtain ⟨u, s, rfl, q, l⟩ := r
    show RepL K mg F (c :: (ds ++ [d])) (u :: (s ++ [v]))
    unfold RepL
    exact ⟨u, s ++ [v], rfl, q, RepL.snoc h l⟩
section
variable {b : Bs} {ρ : Env} {F H F' H' : Hp} {σ : St}
theorem Ok.fresh_0 (k : Ok b ρ F H σ) {p : Addr} (h : H p = none) : b.H_0 p = none := by
  cases e : b.H_0 p with
  | none => rfl
  | some o =>
    exfalso
    by_cases hb : p ∈ b.B.map (·.2)
    · obtain ⟨q, hq, rfl⟩ := List.mem_map.mp hb
      obtain ⟨e1, d, e2⟩ := k.bor q hq
      have z := k.slot _ _ e2
      rw [e1] at z
      obtain ⟨a, ea, _, _, oa⟩ := z
      cases ea
      obtain ⟨o', e3⟩ := oa.some
      rw [h] at e3; cases e3
    · rcases k.old p o e hb with e3 | ⟨_, ob, e3⟩
      · rw [h] at e3; cases e3
      · rw [h] at e3; cases e3
theorem Ok.fresh_F (k : Ok b ρ F H σ) {p : Addr} (h : H p = none) : F p = none := by
  cases e : F p with
  | none => rfl
  | some o =>
    rcases k.sub p o e with z | ⟨ob, kvs, _, z⟩
    · rw [h] at z; cases z
    · rw [h] at z; cases z
theorem Ok.apart_new (k : Ok b ρ F H σ) {p : Addr} (h : H p = none) : Apart ρ σ p := by
  intro j s e hs q
  have z := k.slot j s e
  rw [q] at z
  cases s with
  | un => cases hs
  | fz d => cases hs
  | ow d =>
    obtain ⟨a, ea, _, _, oa⟩ := z
    cases ea
    obtain ⟨o', e3⟩ := oa.some
    rw [h] at e3; cases e3
  | bo d =>
    obtain ⟨a, ea, _, _, oa⟩ := z
    cases ea
    obtain ⟨o', e3⟩ := oa.some
    rw [h] at e3; cases e3

/-- the heap grows: what stood stands -/
structure Grow (F H F' H' : Hp) : Prop where
  sub : Sub F' H'
  ext : Same F F'
  keep : Same H H'
  new : ∀ a o, F' a = some o → F a = some o ∨ H a = none
theorem Grow.refl (h : Sub F H) : Grow F H F H := ⟨h, Same.refl _, Same.refl _, fun _ _ e => .inl e⟩
theorem Same.upd {H : Hp} {p : Addr} {o : HO} (h : H p = none) : Same H (upd H p o) := fun a u e => by
  rw [upd_ne (ne_of_none e h)]; exact e
theorem Grow.frozen (s : Sub F H) {p : Addr} {o : HO} (h : H p = none) : Grow F H (upd F p o) (upd H p o) := by
  have hF : F p = none := by
    cases e : F p with
    | none => rfl
    | some o' =>
      rcases s p o' e with z | ⟨_, _, _, z⟩ <;> (rw [h] at z; cases z)
  refine ⟨fun a u e => ?_, Same.upd hF, Same.upd h, fun a u e => ?_⟩
  · by_cases ha : a = p
    · subst ha; rw [upd_same] at e ⊢; exact .inl e
    · rw [upd_ne ha] at e ⊢; exact s a u e
  · by_cases ha : a = p
    · subst ha; exact .inr h
    · rw [upd_ne ha] at e; exact .inl e
theorem Grow.owned (s : Sub F H) {p : Addr} {o : HO} (h : H p = none) : Grow F H F (upd H p o) := by
  refine ⟨fun a u e => ?_, Same.refl _, Same.upd h, fun a u e => .inl e⟩
  rcases s a u e with z | ⟨ob, kvs, e1, z⟩
  · exact .inl (Same.upd h _ _ z)
  · exact .inr ⟨ob, kvs, e1, Same.upd h _ _ z⟩
theorem SlOk.grow {s : Sl} {x : Option V} (z : SlOk b F H s x) (g : Grow F H F' H') : SlOk b F' H' s x := by
  cases s with
  | un => trivial
  | fz d =>
    obtain ⟨v, e, r⟩ := z
    exact ⟨v, e, r.mono g.ext⟩
  | ow d =>
    obtain ⟨a, e, n, n0, oa⟩ := z
    refine ⟨a, e, ?_, n0, oa.mono g.ext fun o q => g.keep _ _ q⟩
    cases q : F' a with
    | none => rfl
    | some o =>
      obtain ⟨o', e'⟩ := oa.some
      rcases g.new a o q with y | y
      · rw [n] at y; cases y
      · rw [e'] at y; cases y
  | bo d =>
    obtain ⟨a, e, n, n0, oa⟩ := z
    refine ⟨a, e, ?_, n0, oa.mono g.ext fun o q => g.keep _ _ q⟩
    cases q : F' a with
    | none => rfl
    | some o =>
      obtain ⟨o', e'⟩ := oa.some
      rcases g.new a o q with y | y
      · rw [n] at y; cases y
      · rw [e'] at y; cases y
theorem Ok.grow (k : Ok b ρ F H σ) (g : Grow F H F' H') : Ok b ρ F' H' σ := by
  refine ⟨g.sub, fun a o e hb => ?_, k.ext.trans g.ext, fun a o e => ?_, k.len, fun i s e => (k.slot i s e).grow g, k.sep, k.bor, fun p hp => ?_⟩
  · rcases k.old a o e hb with z | ⟨l, ob, z⟩
    · exact .inl (g.keep _ _ z)
    · exact .inr ⟨l, ob, g.keep _ _ z⟩
  · rcases g.new a o e with z | z
    · exact k.new a o z
    · exact .inr (k.fresh_0 z)
  · obtain ⟨h1, h2, h3⟩ := k.prot p hp
    refine ⟨g.keep _ _ h1, ?_, h3⟩
    cases q : F' p.1 with
    | none => rfl
    | some o =>
      rcases g.new _ o q with y | y
      · rw [h2] at y; cases y
      · rw [h1] at y; cases y
theorem RepA.grow {av : AV} {v : V} (r : RepA b F H σ ρ av v) (g : Grow F H F' H') : RepA b F' H' σ ρ av v := by
  cases av with
  | fz d => exact Rep.mono g.ext r
  | sl i => exact r
  | ow d =>
    obtain ⟨a, e, n, n0, oa, ap⟩ := r
    refine ⟨a, e, ?_, n0, oa.mono g.ext fun o q => g.keep _ _ q, ap⟩
    cases q : F' a with
    | none => rfl
    | some o =>
      obtain ⟨o', e'⟩ := oa.some
      rcases g.new a o q with y | y
      · rw [n] at y; cases y
      · rw [e'] at y; cases y

/-- an own object is frozen -/
def thaw (F H : Hp) (a : Addr) : Hp := fun x => if x = a then H a else F x
theorem thaw_same {a : Addr} : thaw F H a a = H a := by unfold thaw; rw [if_pos rfl]
theorem thaw_ne {a x : Addr} (h : x ≠ a) : thaw F H a x = F x := by unfold thaw; rw [if_neg h]
theorem thaw_ext {a : Addr} (h : F a = none) : Same F (thaw F H a) := fun x o e => by
  rw [thaw_ne (ne_of_none e h)]; exact e
theorem thaw_sub {a : Addr} (s : Sub F H) : Sub (thaw F H a) H := fun x o e => by
  by_cases hx : x = a
  · subst hx; rw [thaw_same] at e; exact .inl e
  · rw [thaw_ne hx] at e; exact s x o e
theorem SlOk.thaw {a : Addr} {s : Sl} {x : Option V} (z : SlOk b F H s x) (hn : F a = none) (ha : s.held = true → x ≠ some (.ref a)) : SlOk b (thaw F H a) H s x := by
  cases s with
  | un => trivial
  | fz d =>
    obtain ⟨v, e, r⟩ := z
    exact ⟨v, e, r.mono (thaw_ext hn)⟩
  | ow d =>
    obtain ⟨c, e, n, n0, oa⟩ := z
    have hc : c ≠ a := fun q => ha rfl (by rw [e, q])
    exact ⟨c, e, by rw [thaw_ne hc]; exact n, n0, oa.mono (thaw_ext hn) fun o q => q⟩
  | bo d =>
    obtain ⟨c, e, n, n0, oa⟩ := z
    have hc : c ≠ a := fun q => ha rfl (by rw [e, q])
    exact ⟨c, e, by rw [thaw_ne hc]; exact n, n0, oa.mono (thaw_ext hn) fun o q => q⟩
theorem getD_ref {x : Option (Option V)} {v : V} (h : x.getD none = some v) : x = some (some v) := by
  cases x with
  | none => cases h
  | some y => exact congrArg some h
/-- a new object that no slot holds is frozen -/
theorem Ok.freezeT (k : Ok b ρ F H σ) {d : D} {v : V} (r : RepA b F H σ ρ (.ow d) v) : ∃ F', Ok b ρ F' H σ ∧ Same F F' ∧ Rep b.K b.mg F' d v := by
  obtain ⟨a, rfl, n, n0, oa, ap⟩ := r
  refine ⟨thaw F H a, ⟨thaw_sub k.sub, k.old, k.ext.trans (thaw_ext n), fun x o e => ?_, k.len, fun i s e => (k.slot i s e).thaw n fun hs q => ap.1 i s e hs (getD_ref q), k.sep, k.bor, fun p hp => by rw [thaw_ne (ap.2 p hp)]; exact k.prot p hp⟩, thaw_ext n, oa.rep (thaw_ext n) thaw_same⟩
  by_cases hx : x = a
  · subst hx; exact .inr n0
  · rw [thaw_ne hx] at e; exact k.new x o e
/-- a value becomes one that stays -/
theorem Ok.stab (k : Ok b ρ F H σ) {av : AV} {v : V} (r : RepA b F H σ ρ av v) : ∃ F', Ok b ρ F' H σ ∧ Same F F' ∧ RepA b F' H σ ρ (stab av) v := by
  cases av with
  | fz d => exact ⟨F, k, Same.refl _, r⟩
  | sl i => exact ⟨F, k, Same.refl _, r⟩
  | ow d => exact k.freezeT r
theorem RepA.stays {av : AV} {v : V} {ρ' : Env} (r : RepA b F H σ ρ (DL.stab av) v) (h : Same F F') : RepA b F' H' σ ρ' (DL.stab av) v := by
  cases av with
  | fz d => exact Rep.mono h r
  | sl i => exact r
  | ow d => exact Rep.mono h r
/-- read -/
theorem Ok.read (k : Ok b ρ F H σ) {av : AV} {v : V} (r : RepA b F H σ ρ av v) {d : D} {ρ' : Env} (h : rd av ρ = .ok d ρ') : ρ' = ρ ∧ RepD b.K b.mg F H d v := by
  cases av with
  | fz x =>
    cases h
    exact ⟨rfl, .inl r⟩
  | ow x =>
    cases h
    obtain ⟨a, e, _, _, oa, _⟩ := r
    exact ⟨rfl, .inr ⟨a, e, oa⟩⟩
  | sl i =>
    dsimp only [rd] at h
    cases e : ρ[i]? with
    | none => rw [e] at h; cases h
    | some s =>
      rw [e] at h
      have z := k.slot i s e
      have q : σ[i]? = some (some v) := r
      rw [q] at z
      cases s with
      | un => cases h
      | fz x =>
        cases h
        obtain ⟨u, eu, ru⟩ := z
        cases eu
        exact ⟨rfl, .inl ru⟩
      | ow x =>
        cases h
        obtain ⟨a, eu, _, _, oa⟩ := z
        cases eu
        exact ⟨rfl, .inr ⟨a, rfl, oa⟩⟩
      | bo x =>
        cases h
        obtain ⟨a, eu, _, _, oa⟩ := z
        cases eu
        exact ⟨rfl, .inr ⟨a, rfl, oa⟩⟩
theorem set_get {α : Type} {l : List α} {i j : Nat} {x y : α} (h : (l.set i x)[j]? = some y) : (j = i ∧ i < l.length ∧ y = x) ∨ (j ≠ i ∧ l[j]? = some y) := by
  by_cases e : j = i
  · subst e
    rw [List.getElem?_set] at h
    simp only [if_true] at h
    split at h
    · cases h; exact .inl ⟨rfl, by assumption, rfl⟩
    · cases h
  · rw [List.getElem?_set_ne (Ne.symm e)] at h
    exact .inr ⟨e, h⟩
/-- what is read for good: the slot is frozen -/
theorem Ok.froze (k : Ok b ρ F H σ) {av : AV} {v : V} (r : RepA b F H σ ρ av v) {d : D} {ρ' : Env} (h : frz av ρ = .ok d ρ') : ∃ F', Ok b ρ' F' H σ ∧ Same F F' ∧ Rep b.K b.mg F' d v := by
  cases av with
  | fz x =>
    cases h
    exact ⟨F, k, Same.refl _, r⟩
  | ow x =>
    cases h
    exact k.freezeT r
  | sl i =>
    dsimp only [frz] at h
    cases e : ρ[i]? with
    | none => rw [e] at h; cases h
    | some s =>
      rw [e] at h
      have z := k.slot i s e
      have q : σ[i]? = some (some v) := r
      rw [q] at z
      cases s with
      | un => cases h
      | bo x => cases h
      | fz x =>
        cases h
        obtain ⟨u, eu, ru⟩ := z
        cases eu
        exact ⟨F, k, Same.refl _, ru⟩
      | ow x =>
        cases h
        obtain ⟨a, eu, n, n0, oa⟩ := z
        cases eu
        refine ⟨thaw F H a, ⟨thaw_sub k.sub, k.old, k.ext.trans (thaw_ext n), fun x o e => ?_, by rw [List.length_set]; exact k.len, fun j s ej => ?_, fun j l s s' c ej el hs hs' => ?_, fun p hp => ?_, fun p hp => ?_⟩, thaw_ext n, oa.rep (thaw_ext n) thaw_same⟩
        · by_cases hx : x = a
          · subst hx; exact .inr n0
          · rw [thaw_ne hx] at e; exact k.new x o e
        · rcases set_get ej with ⟨rfl, _, rfl⟩ | ⟨hj, ej'⟩
          · rw [q]
            exact ⟨_, rfl, oa.rep (thaw_ext n) thaw_same⟩
          · exact (k.slot j s ej').thaw n fun hs w => hj (k.sep j i s _ a ej' e hs rfl (getD_ref w) q)
        · rcases set_get ej with ⟨rfl, _, rfl⟩ | ⟨hj, ej'⟩
          · cases hs
          · rcases set_get el with ⟨rfl, _, rfl⟩ | ⟨hl, el'⟩
            · cases hs'
            · exact k.sep j l s s' c ej' el' hs hs'
        · obtain ⟨e1, d', e2⟩ := k.bor p hp
          have hne : p.1 ≠ i := fun w => by rw [w, e] at e2; cases e2
          exact ⟨e1, d', by rw [List.getElem?_set_ne (Ne.symm hne)]; exact e2⟩
        · obtain ⟨h1, h2, h3⟩ := k.prot p hp
          have hpa : p.1 ≠ a := fun w => h3 i _ e rfl (by rw [w]; exact q)
          refine ⟨h1, by rw [thaw_ne hpa]; exact h2, fun j s ej hs => ?_⟩
          rcases set_get ej with ⟨rfl, _, rfl⟩ | ⟨_, ej'⟩
          · cases hs
          · exact h3 j s ej' hs
theorem Ok.prot_new (k : Ok b ρ F H σ) {a : Addr} (h : H a = none) : ∀ p ∈ b.P, p.1 ≠ a := fun p hp e => by
  have := (k.prot p hp).1
  rw [e, h] at this; cases this
end

/-! ### readings over data -/
/-- an exception as data -/
def ExR (b : Bs) (F : Hp) (e : Exn) (c : Value) (dd : Option Addr) : Prop :=
  ∃ C, b.mg e.c = some (.ref C) ∧ c = .ref C ∧ (e.fs = [] ∨ ∃ d vs, dd = some d ∧ F d = some (.xd vs) ∧ RepF b.K b.mg F e.fs vs)
def After {α : Type} (b : Bs) (W : WX) (σ : St) (F : Hp) (r : R α) (Q : α → Env → Hp → Hp → Prop) : Prop :=
  match r with
  | .ok a ρ' => ∀ F' H', Ok b ρ' F' H' σ → Same F F' → Q a ρ' F' H'
  | .ex e ρ' => ∀ c dd F' H', Ok b ρ' F' H' σ → Same F F' → ExR b F' e c dd → W c dd σ H'
  | .no => False
theorem After.bnd {α β : Type} {b : Bs} {W : WX} {σ : St} {F : Hp} {ρ : Env} {m : M α} {f : α → M β} {Q : β → Env → Hp → Hp → Prop} (h : After b W σ F (m.bnd f ρ) Q) :
    After b W σ F (m ρ) fun a ρ' F' H' => Ok b ρ' F' H' σ ∧ After b W σ F' (f a ρ') Q := by
  unfold M.bnd at h
  cases e : m ρ with
  | no => rw [e] at h; exact h
  | ex x ρ' => rw [e] at h; exact h
  | ok a ρ' =>
    rw [e] at h
    intro F' H' k s
    refine ⟨k, ?_⟩
    have h' : After b W σ F (f a ρ') Q := h
    cases e2 : f a ρ' with
    | no => rw [e2] at h'; exact h'
    | ex x ρ2 =>
      rw [e2] at h'
      exact fun c dd F2 H2 k2 s2 => h' c dd F2 H2 k2 (s.trans s2)
    | ok a2 ρ2 =>
      rw [e2] at h'
      exact fun F2 H2 k2 s2 => h' F2 H2 k2 (s.trans s2)
theorem After.imp {α : Type} {b : Bs} {W : WX} {σ : St} {F : Hp} {r : R α} {Q Q' : α → Env → Hp → Hp → Prop} (h : After b W σ F r Q) (i : ∀ a ρ' F' H', Ok b ρ' F' H' σ → Same F F' → Q a ρ' F' H' → Q' a ρ' F' H') : After b W σ F r Q' := by
  cases r with
  | no => exact h
  | ex x ρ' => exact h
  | ok a ρ' => exact fun F' H' k s => i a ρ' F' H' k s (h F' H' k s)
/-- from a later frozen part on -/
theorem After.later {α : Type} {b : Bs} {W : WX} {σ : St} {F F1 : Hp} {r : R α} {Q : α → Env → Hp → Hp → Prop} (h : After b W σ F r Q) (s : Same F F1) : After b W σ F1 r Q := by
  cases r with
  | no => exact h
  | ex x ρ' => exact fun c dd F' H' k s' => h c dd F' H' k (s.trans s')
  | ok a ρ' => exact fun F' H' k s' => h F' H' k (s.trans s')

def tE (b : Bs) (W : WX) (φ : M AV) : TE := fun σ H Q => ∃ F ρ, Ok b ρ F H σ ∧ After b W σ F (φ ρ) fun av ρ' F' H' => ∀ v, RepA b F' H' σ ρ' av v → Q v H'
def tT (b : Bs) (W : WX) (φ : M Bool) : TT := fun σ H Q => ∃ F ρ, Ok b ρ F H σ ∧ After b W σ F (φ ρ) fun k ρ' F' H' => Q k H'
/-- arguments: each one stays -/
inductive RepAs (b : Bs) (F H : Hp) (σ : St) (ρ : Env) : List AV → List V → Prop
  | nil : RepAs b F H σ ρ [] []
  | cons {av : AV} {avs : List AV} {v : V} {vs : List V} : RepA b F H σ ρ (stab av) v → RepAs b F H σ ρ avs vs → RepAs b F H σ ρ (stab av :: avs) (v :: vs)
def tAs (b : Bs) (W : WX) (φ : M (List AV)) : TA := fun σ H Q => ∃ F ρ, Ok b ρ F H σ ∧ After b W σ F (φ ρ) fun avs ρ' F' H' => ∀ vs, RepAs b F' H' σ ρ' avs vs → Q vs H'
theorem weakE {X : Cx} {e : Expr} {t t' : TE} (h : PE X e t) (i : ∀ σ H Q, t' σ H Q → t σ H Q) : PE X e t' := ⟨fun pins s σ H Q I q => h.run pins s σ H Q I (i _ _ _ q)⟩
theorem weakT {X : Cx} {e : Expr} {t t' : TT} (h : PT X e t) (i : ∀ σ H Q, t' σ H Q → t σ H Q) : PT X e t' := ⟨fun pins s σ H Q I q => h.run pins s σ H Q I (i _ _ _ q)⟩
theorem weakA {X : Cx} {e : List Expr} {t t' : TA} (h : PA X e t) (i : ∀ σ H Q, t' σ H Q → t σ H Q) : PA X e t' := ⟨fun pos pins s σ H Q I q => h.run pos pins s σ H Q I (i _ _ _ q)⟩
theorem weakS {X : Cx} {e : Stmt} {t t' : TS} (h : PS X e t) (i : ∀ D σ H, t' D σ H → t D σ H) : PS X e t' := ⟨fun pins s σ H D I q => h.run pins s σ H D I (i _ _ _ q)⟩
theorem weakSs {X : Cx} {e : List Stmt} {t t' : TS} (h : PSs X e t) (i : ∀ D σ H, t' D σ H → t D σ H) : PSs X e t' := ⟨fun pins s σ H D I q => h.run pins s σ H D I (i _ _ _ q)⟩
end DL

namespace DL
open PySem PySem.Spec L2

structure Fit (X : Cx) (b : Bs) : Prop where
  K : b.K = X.K
  mg : b.mg = X.mg

/-! ### expressions -/
def lift {α : Type} (o : Option α) : M α := match o with
  | some a => M.ret a
  | none => M.stuck
def mVar (i : Nat) : M AV := fun ρ => match ρ[i]? with
  | some .un => .no
  | some _ => .ok (.sl i) ρ
  | none => .no
def mC (d : D) : M AV := M.ret (.fz d)
def rdAll : List AV → M (List D)
  | [] => M.ret []
  | a :: r => (rd a).bnd fun d => (rdAll r).bnd fun ds => M.ret (d :: ds)
def frzAll : List AV → M (List D)
  | [] => M.ret []
  | a :: r => (frz a).bnd fun d => (frzAll r).bnd fun ds => M.ret (d :: ds)
def mNil : M (List AV) := M.ret []
def mCons (φ : M AV) (ψ : M (List AV)) : M (List AV) := φ.bnd fun a => ψ.bnd fun r => M.ret (stab a :: r)
def mOp (f : D → D → Option AV) (φ ψ : M AV) : M AV := φ.bnd fun a => ψ.bnd fun c => (rd (stab a)).bnd fun x => (rd (stab c)).bnd fun y => lift (f x y)
def mCall (f : List D → Option AV) (φ : M (List AV)) : M AV := φ.bnd fun avs => (rdAll avs).bnd fun ds => lift (f ds)
def mUn (f : D → Option AV) (φ : M AV) : M AV := φ.bnd fun a => (rd (stab a)).bnd fun x => lift (f x)
def mTup (φ : M (List AV)) : M AV := φ.bnd fun avs => (frzAll avs).bnd fun ds => if ds.length ≤ sizeLine then M.ret (.fz (.tup ds)) else M.stuck
def mLst (φ : M (List AV)) : M AV := φ.bnd fun avs => (frzAll avs).bnd fun ds => if ds.length ≤ sizeLine then M.ret (.ow (.lst ds)) else M.stuck
def isBl : D → M Bool
  | .bl k => M.ret k
  | _ => M.stuck
def mTest (φ : M AV) : M Bool := φ.bnd fun a => (rd a).bnd isBl
def mNot (φ : M Bool) : M Bool := φ.bnd fun k => M.ret (!k)
def mIf {α : Type} (t : M Bool) (φ ψ : M α) : M α := t.bnd fun k => if k then φ else ψ
def mBl (t : M Bool) : M AV := t.bnd fun k => M.ret (.fz (.bl k))
def mAndV (φ ψ : M AV) : M AV := φ.bnd fun a => (rd a).bnd fun d => match d with
  | .bl true => ψ
  | .bl false => M.ret (.fz (.bl false))
  | _ => M.stuck
def mOrV (φ ψ : M AV) : M AV := φ.bnd fun a => (rd a).bnd fun d => match d with
  | .bl false => ψ
  | .bl true => M.ret (.fz (.bl true))
  | _ => M.stuck

theorem M.bnd_assoc {α β γ : Type} (m : M α) (f : α → M β) (g : β → M γ) : (m.bnd f).bnd g = m.bnd fun a => (f a).bnd g := by
  funext ρ
  unfold M.bnd
  cases m ρ <;> rfl
theorem M.ret_bnd {α β : Type} (a : α) (f : α → M β) : (M.ret a).bnd f = f a := rfl
/-- what a pure operation on data hands on -/
def Gives (b : Bs) (ρ : Env) (σ : St) (F : Hp) (o : Option AV) (Q : VK) : Prop := match o with
  | some av => ∀ v F' H', Ok b ρ F' H' σ → Same F F' → RepA b F' H' σ ρ av v → Q v H'
  | none => False
/-- a state in which some values are read as data -/
structure At (b : Bs) (F H : Hp) (σ : St) (ρ : Env) : Prop where
  ok : Ok b ρ F H σ
abbrev Rd1 (b : Bs) (F H : Hp) (d : D) (v : V) : Prop := RepD b.K b.mg F H d v
def rD2 (b : Bs) (f : D → D → Option AV) : R2 := fun x y H Q => ∃ F σ ρ dx dy, Ok b ρ F H σ ∧ Rd1 b F H dx x ∧ Rd1 b F H dy y ∧ Gives b ρ σ F (f dx dy) Q
def rD1 (b : Bs) (f : D → Option AV) : V → Hp → VK → Prop := fun x H Q => ∃ F σ ρ dx, Ok b ρ F H σ ∧ Rd1 b F H dx x ∧ Gives b ρ σ F (f dx) Q
inductive RdL (b : Bs) (F H : Hp) : List D → List V → Prop
  | nil : RdL b F H [] []
  | cons {d : D} {ds : List D} {v : V} {vs : List V} : Rd1 b F H d v → RdL b F H ds vs → RdL b F H (d :: ds) (v :: vs)
def rDs (b : Bs) (f : List D → Option AV) : List V → Hp → VK → Prop := fun xs H Q => ∃ F σ ρ ds, Ok b ρ F H σ ∧ RdL b F H ds xs ∧ Gives b ρ σ F (f ds) Q
def rDm (b : Bs) (f : D → List D → Option AV) : V → List V → Hp → VK → Prop := fun x xs H Q => ∃ F σ ρ d ds, Ok b ρ F H σ ∧ Rd1 b F H d x ∧ RdL b F H ds xs ∧ Gives b ρ σ F (f d ds) Q
abbrev OpD (X : Cx) (g : Value → Value → Sem Value) (f : D → D → Option AV) : Prop := ∀ b, Fit X b → OpR X g (rD2 b f)
abbrev UnD (X : Cx) (g : Value → Sem Value) (f : D → Option AV) : Prop := ∀ b, Fit X b → UnR X g (rD1 b f)
abbrev CallD (X : Cx) (v : Value) (f : List D → Option AV) : Prop := ∀ b, Fit X b → CallR X v (rDs b f)
abbrev MtD (X : Cx) (id : String) (f : D → List D → Option AV) : Prop := ∀ b, Fit X b → MtR X id (rDm b f)

section
variable {b : Bs} {W : WX} {σ : St} {ρ : Env} {F H : Hp}
theorem After.gives {o : Option AV} {Q : VK} (h : After b W σ F (lift o ρ) fun av ρ' F' H' => ∀ v, RepA b F' H' σ ρ' av v → Q v H') : Gives b ρ σ F o Q := by
  cases o with
  | none => exact h
  | some av => exact fun v F' H' k s r => h F' H' k s v r
/-- read one value, go on -/
theorem After.read {α : Type} {av : AV} {v : V} {f : D → M α} {Q : α → Env → Hp → Hp → Prop} (k : Ok b ρ F H σ) (r : RepA b F H σ ρ av v) (h : After b W σ F ((rd av).bnd f ρ) Q) : ∃ d, Rd1 b F H d v ∧ After b W σ F (f d ρ) Q := by
  unfold M.bnd at h
  cases e : rd av ρ with
  | no => rw [e] at h; exact h.elim
  | ex x ρ' =>
    cases av with
    | fz d => cases e
    | ow d => cases e
    | sl i =>
      dsimp only [rd] at e
      split at e <;> cases e
  | ok d ρ' =>
    rw [e] at h
    obtain ⟨rfl, q⟩ := k.read r e
    exact ⟨d, q, h⟩
theorem After.readAll {α : Type} {avs : List AV} {vs : List V} (k : Ok b ρ F H σ) (r : RepAs b F H σ ρ avs vs) : ∀ {f : List D → M α} {Q : α → Env → Hp → Hp → Prop}, After b W σ F ((rdAll avs).bnd f ρ) Q → ∃ ds, RdL b F H ds vs ∧ After b W σ F (f ds ρ) Q := by
  induction r with
  | nil => exact fun h => ⟨[], .nil, h⟩
  | @cons av avs v vs r1 r2 ih =>
    intro f Q h
    have e : (rdAll (stab av :: avs)).bnd f = (rd (stab av)).bnd fun d => (rdAll avs).bnd fun ds => f (d :: ds) := by
      show ((rd (stab av)).bnd fun d => (rdAll avs).bnd fun ds => M.ret (d :: ds)).bnd f = _
      rw [M.bnd_assoc]
      exact congrArg _ (funext fun d => by rw [M.bnd_assoc]; rfl)
    rw [e] at h
    obtain ⟨d, q1, h1⟩ := After.read k r1 h
    obtain ⟨ds, q2, h2⟩ := ih h1
    exact ⟨d :: ds, .cons q1 q2, h2⟩
theorem After.frozeAll {α : Type} {avs : List AV} {vs : List V} (r : RepAs b F H σ ρ avs vs) : ∀ {ρ' : Env} {F' : Hp} {f : List D → M α} {Q : α → Env → Hp → Hp → Prop}, Ok b ρ' F' H σ → Same F F' → After b W σ F' ((frzAll avs).bnd f ρ') Q →
    ∃ ds ρ2 F2, Ok b ρ2 F2 H σ ∧ Same F' F2 ∧ RepL b.K b.mg F2 ds vs ∧ After b W σ F2 (f ds ρ2) Q := by
  induction r with
  | nil => exact fun k s h => ⟨[], _, _, k, Same.refl _, by unfold RepL; rfl, h⟩
  | @cons av avs v vs r1 r2 ih =>
    intro ρ' F' f Q k s h
    have e : (frzAll (stab av :: avs)).bnd f = (frz (stab av)).bnd fun d => (frzAll avs).bnd fun ds => f (d :: ds) := by
      show ((frz (stab av)).bnd fun d => (frzAll avs).bnd fun ds => M.ret (d :: ds)).bnd f = _
      rw [M.bnd_assoc]
      exact congrArg _ (funext fun d => by rw [M.bnd_assoc]; rfl)
    rw [e] at h
    have r1' : RepA b F' H σ ρ' (stab av) v := r1.stays s
    unfold M.bnd at h
    cases e1 : frz (stab av) ρ' with
    | no => rw [e1] at h; exact h.elim
    | ex x ρ2 =>
      cases av with
      | fz d => cases e1
      | ow d => cases e1
      | sl i =>
        dsimp only [stab, frz] at e1
        split at e1 <;> cases e1
    | ok d ρ2 =>
      rw [e1] at h
      obtain ⟨F2, k2, s2, q2⟩ := k.froze r1' e1
      obtain ⟨ds, ρ3, F3, k3, s3, q3, h3⟩ := ih k2 (s.trans s2) (After.later (show After b W σ F' ((DL.frzAll avs).bnd (fun ds => f (d :: ds)) ρ2) Q from h) s2)
      refine ⟨d :: ds, ρ3, F3, k3, s2.trans s3, ?_, h3⟩
      unfold RepL
      exact ⟨v, vs, rfl, q2.mono s3, q3⟩
/-- freeze one value, go on -/
theorem After.froze {α : Type} {av : AV} {v : V} {f : D → M α} {Q : α → Env → Hp → Hp → Prop} (k : Ok b ρ F H σ) (r : RepA b F H σ ρ av v) (h : After b W σ F ((frz av).bnd f ρ) Q) :
    ∃ d ρ2 F2, Ok b ρ2 F2 H σ ∧ Same F F2 ∧ Rep b.K b.mg F2 d v ∧ After b W σ F2 (f d ρ2) Q := by
  unfold M.bnd at h
  cases e1 : frz av ρ with
  | no => rw [e1] at h; exact h.elim
  | ex x ρ2 =>
    cases av with
    | fz d => cases e1
    | ow d => cases e1
    | sl i =>
      dsimp only [frz] at e1
      split at e1 <;> cases e1
  | ok d ρ2 =>
    rw [e1] at h
    obtain ⟨F2, k2, s2, q2⟩ := k.froze r e1
    exact ⟨d, ρ2, F2, k2, s2, q2, After.later (show After b W σ F (f d ρ2) Q from h) s2⟩
end

/-! ### the rules for expressions -/
section
variable {X : Cx} {b : Bs} {W : WX} {pos : Pos}
/-- e, then the rest -/
theorem runE {α : Type} {φ : M AV} {f : AV → M α} {σ : St} {H F : Hp} {ρ : Env} {Q : α → Env → Hp → Hp → Prop} {R : V → Hp → Prop} (k : Ok b ρ F H σ) (h : After b W σ F (φ.bnd f ρ) Q)
    (i : ∀ av v ρ1 F1 H1, Ok b ρ1 F1 H1 σ → Same F F1 → RepA b F1 H1 σ ρ1 av v → After b W σ F1 (f av ρ1) Q → R v H1) : tE b W φ σ H R :=
  ⟨F, ρ, k, h.bnd.imp fun av ρ' F' H' k' s q v r => i av v ρ' F' H' k' s r q.2⟩
theorem runT {α : Type} {φ : M Bool} {f : Bool → M α} {σ : St} {H F : Hp} {ρ : Env} {Q : α → Env → Hp → Hp → Prop} {R : Bool → Hp → Prop} (k : Ok b ρ F H σ) (h : After b W σ F (φ.bnd f ρ) Q)
    (i : ∀ c ρ1 F1 H1, Ok b ρ1 F1 H1 σ → Same F F1 → After b W σ F1 (f c ρ1) Q → R c H1) : tT b W φ σ H R :=
  ⟨F, ρ, k, h.bnd.imp fun av ρ' F' H' k' s q => i av ρ' F' H' k' s q.2⟩
theorem runA {α : Type} {φ : M (List AV)} {f : List AV → M α} {σ : St} {H F : Hp} {ρ : Env} {Q : α → Env → Hp → Hp → Prop} {R : List V → Hp → Prop} (k : Ok b ρ F H σ) (h : After b W σ F (φ.bnd f ρ) Q)
    (i : ∀ avs vs ρ1 F1 H1, Ok b ρ1 F1 H1 σ → Same F F1 → RepAs b F1 H1 σ ρ1 avs vs → After b W σ F1 (f avs ρ1) Q → R vs H1) : tAs b W φ σ H R :=
  ⟨F, ρ, k, h.bnd.imp fun av ρ' F' H' k' s q v r => i av v ρ' F' H' k' s r q.2⟩
theorem rd_bl {d : D} {v : V} {σ : St} {F H : Hp} {ρ : Env} {Q : Bool → Env → Hp → Hp → Prop} (r : Rd1 b F H d v) (h : After b W σ F (isBl d ρ) Q) : ∃ c, v = .bl c ∧ ∀ F' H', Ok b ρ F' H' σ → Same F F' → Q c ρ F' H' := by
  cases d with
  | bl c =>
    rcases r with r | ⟨a, _, oa⟩
    · unfold Rep at r
      exact ⟨c, r, h⟩
    · exact oa.elim
  | _ => exact h.elim
theorem de_var {i : Nat} {x : Str} (he : PE X (.Name x pos) (tVar i)) : PE X (.Name x pos) (tE b W (mVar i)) := by
  refine weakE he fun σ H Q h => ?_
  obtain ⟨F, ρ, k, a⟩ := h
  unfold mVar at a
  cases e : ρ[i]? with
  | none => rw [e] at a; exact a.elim
  | some s =>
    rw [e] at a
    have z := k.slot i s e
    cases s with
    | un => exact a.elim
    | fz d =>
      obtain ⟨v, ev, _⟩ := z
      exact ⟨v, getD_ref ev, a F H k (Same.refl _) v (getD_ref ev)⟩
    | ow d =>
      obtain ⟨v, ev, _⟩ := z
      exact ⟨_, getD_ref ev, a F H k (Same.refl _) _ (getD_ref ev)⟩
    | bo d =>
      obtain ⟨v, ev, _⟩ := z
      exact ⟨_, getD_ref ev, a F H k (Same.refl _) _ (getD_ref ev)⟩
/-- a constant -/
theorem de_c {e : Expr} {v : V} {d : D} (he : PE X e (tC v)) (hr : ∀ F, Rep b.K b.mg F d v) : PE X e (tE b W (mC d)) := by
  refine weakE he fun σ H Q h => ?_
  obtain ⟨F, ρ, k, a⟩ := h
  exact a F H k (Same.refl _) v (hr F)
theorem de_int {i : Int} {j : Nat} : PE X (.Constant (.int i) j pos) (tE b W (mC (.int i))) := de_c pe_int fun F => by unfold Rep; rfl
theorem de_bl {k : Bool} {j : Nat} : PE X (.Constant (.bool k) j pos) (tE b W (mC (.bl k))) := de_c pe_bl fun F => by unfold Rep; rfl
theorem de_non {j : Nat} : PE X (.Constant .none j pos) (tE b W (mC .non)) := de_c pe_non fun F => by unfold Rep; rfl
theorem de_str {x : Str} {j : Nat} : PE X (.Constant (.str x) j pos) (tE b W (mC (.str x))) := de_c pe_str fun F => by unfold Rep; rfl
/-- a global constant whose data stands -/
def GloD (X : Cx) (x : Str) (d : D) : Prop := ∃ u v, X.mg x = some u ∧ RelV v u ∧ ∀ F, Rep X.K X.mg F d v
theorem de_glob {x : Str} {d : D} (fit : Fit X b) (g : GloD X x d) (hg : Gl X x) (hd : (x == ("__debug__" : Str)) = false := by decide) : PE X (.Name x pos) (tE b W (mC d)) := by
  obtain ⟨u, v, h1, h2, h3⟩ := g
  exact de_c (pe_glob hg h1 h2 hd) fun F => by rw [fit.K, fit.mg]; exact h3 F
theorem run2 {f : D → D → Option AV} {φ ψ : M AV} {σ : St} {F H : Hp} {ρ : Env} {Q : VK} (k : Ok b ρ F H σ) (h : After b W σ F (mOp f φ ψ ρ) fun av ρ' F' H' => ∀ v, RepA b F' H' σ ρ' av v → Q v H') :
    tE b W φ σ H fun x H1 => tE b W ψ σ H1 fun y H2 => rD2 b f x y H2 Q := by
  refine runE k h fun av x ρ1 F1 H1 k1 s1 r1 h1 => ?_
  obtain ⟨F2, k2, s2, r2⟩ := k1.stab r1
  refine runE k2 (h1.later s2) fun cv y ρ3 F3 H3 k3 s3 r3 h3 => ?_
  obtain ⟨F4, k4, s4, r4⟩ := k3.stab r3
  have r2' : RepA b F4 H3 σ ρ3 (stab av) x := r2.stays (s3.trans s4)
  obtain ⟨dx, q1, h5⟩ := (h3.later s4).read k4 r2'
  obtain ⟨dy, q2, h6⟩ := h5.read k4 r4
  exact ⟨F4, σ, ρ3, dx, dy, k4, q1, q2, h6.gives⟩
/-- .. as a test -/
theorem run2T {f : D → D → Option AV} {φ ψ : M AV} {σ : St} {F H : Hp} {ρ : Env} {Q : Bool → Hp → Prop} (k : Ok b ρ F H σ) (h : After b W σ F (mTest (mOp f φ ψ) ρ) fun c ρ' F' H' => Q c H') :
    tE b W φ σ H fun x H1 => tE b W ψ σ H1 fun y H2 => rD2 b f x y H2 fun z H3 => ∃ c, z = .bl c ∧ Q c H3 := by
  refine run2 k (h.bnd.imp fun av ρ' F' H' k' s' ⟨_, q⟩ v r => ?_)
  obtain ⟨d, q1, h2⟩ := q.read k' r
  obtain ⟨c, rfl, h3⟩ := rd_bl q1 h2
  exact ⟨c, rfl, h3 F' H' k' (Same.refl _)⟩
theorem de_op {a c : Expr} {op : Operator} {f : D → D → Option AV} {φ ψ : M AV} (fit : Fit X b) (ho : OpD X (binaryOp op) f) (ha : PE X a (tE b W φ)) (hc : PE X c (tE b W ψ)) : PE X (.BinOp a op c pos) (tE b W (mOp f φ ψ)) := by
  refine weakE (pe_op (ho b fit) ha hc) fun σ H Q ⟨F, ρ, k, h⟩ => ?_
  exact run2 k h
theorem de_cmp {a c : Expr} {op : CmpOp} {f : D → D → Option AV} {φ ψ : M AV} (fit : Fit X b) (ho : OpD X (compareOp op) f) (ha : PE X a (tE b W φ)) (hc : PE X c (tE b W ψ)) (hm : behindInMarks op c = false) : PE X (.Compare a [op] [c] pos) (tE b W (mOp f φ ψ)) := by
  refine weakE (pe_cmpR (ho b fit) ha hc hm) fun σ H Q ⟨F, ρ, k, h⟩ => ?_
  exact run2 k h
theorem de_un {a : Expr} {op : UnaryOp} {f : D → Option AV} {φ : M AV} (fit : Fit X b) (ho : UnD X (unaryOp op) f) (ha : PE X a (tE b W φ)) : PE X (.UnaryOp op a pos) (tE b W (mUn f φ)) := by
  refine weakE (pe_un (ho b fit) ha) fun σ H Q ⟨F, ρ, k, h⟩ => ?_
  refine runE k h fun av x ρ1 F1 H1 k1 s1 r1 h1 => ?_
  obtain ⟨F2, k2, s2, r2⟩ := k1.stab r1
  obtain ⟨dx, q1, h2⟩ := (h1.later s2).read k2 r2
  exact ⟨F2, σ, ρ1, dx, k2, q1, h2.gives⟩

/-! tests -/
theorem dt_val {e : Expr} {φ : M AV} (h : PE X e (tE b W φ)) (he : ∀ whole, isTrue e X.env whole = (do let v ← whole; standAt e.pos; holding [v] (truthy v)) := by intro _; rfl) : PT X e (tT b W (mTest φ)) := by
  refine weakT (pt_val h he) fun σ H Q ⟨F, ρ, k, a⟩ => ?_
  refine runE k a fun av x ρ1 F1 H1 k1 s1 r1 h1 => ?_
  obtain ⟨d, q1, h2⟩ := h1.read k1 r1
  obtain ⟨c, rfl, h3⟩ := rd_bl q1 h2
  exact ⟨c, rfl, h3 F1 H1 k1 (Same.refl _)⟩
theorem dt_cmp {a c : Expr} {op : CmpOp} {f : D → D → Option AV} {φ ψ : M AV} (fit : Fit X b) (ho : OpD X (compareOp op) f) (ha : PE X a (tE b W φ)) (hc : PE X c (tE b W ψ)) (hm : behindInMarks op c = false) : PT X (.Compare a [op] [c] pos) (tT b W (mTest (mOp f φ ψ))) := by
  refine weakT (pt_cmpR (ho b fit) ha hc hm) fun σ H Q ⟨F, ρ, k, h⟩ => ?_
  exact run2T k h
theorem dt_not {e : Expr} {φ : M Bool} (h : PT X e (tT b W φ)) : PT X (.UnaryOp .Not e pos) (tT b W (mNot φ)) := by
  refine weakT (pt_not h) fun σ H Q ⟨F, ρ, k, a⟩ => ?_
  exact runT k a fun c ρ1 F1 H1 k1 s1 h1 => h1 F1 H1 k1 (Same.refl _)
end
end DL

namespace DL
open PySem PySem.Spec L2

section
variable {X : Cx} {b : Bs} {W : WX} {pos : Pos}
/-! and, or -/
def mAnd (φ ψ : M Bool) : M Bool := φ.bnd fun k => if k then ψ else M.ret false
def mOr (φ ψ : M Bool) : M Bool := φ.bnd fun k => if k then M.ret true else ψ
theorem dw_and1 {a : Expr} {φ : M Bool} (ha : PT X a (tT b W φ)) : PW X (.BoolOp .And [a] pos) (tT b W φ) := pw_and1 ha
theorem dw_or1 {a : Expr} {φ : M Bool} (ha : PT X a (tT b W φ)) : PW X (.BoolOp .Or [a] pos) (tT b W φ) := pw_or1 ha
theorem weakW {X : Cx} {e : Expr} {t t' : TT} (h : PW X e t) (i : ∀ σ H Q, t' σ H Q → t σ H Q) : PW X e t' := ⟨fun wh pins s σ H Q I q => h.run wh pins s σ H Q I (i _ _ _ q)⟩
theorem dw_and {a c : Expr} {rest : List Expr} {φ ψ : M Bool} (ha : PT X a (tT b W φ)) (hb : PW X (.BoolOp .And (c :: rest) pos) (tT b W ψ)) : PW X (.BoolOp .And (a :: c :: rest) pos) (tT b W (mAnd φ ψ)) := by
  refine weakW (pw_and ha hb) fun σ H Q ⟨F, ρ, k, h⟩ => ?_
  refine runT k h fun c ρ1 F1 H1 k1 s1 h1 => ?_
  cases c with
  | true => exact iteT ⟨F1, ρ1, k1, h1⟩
  | false => exact iteF (h1 F1 H1 k1 (Same.refl _))
theorem dw_or {a c : Expr} {rest : List Expr} {φ ψ : M Bool} (ha : PT X a (tT b W φ)) (hb : PW X (.BoolOp .Or (c :: rest) pos) (tT b W ψ)) : PW X (.BoolOp .Or (a :: c :: rest) pos) (tT b W (mOr φ ψ)) := by
  refine weakW (pw_or ha hb) fun σ H Q ⟨F, ρ, k, h⟩ => ?_
  refine runT k h fun c ρ1 F1 H1 k1 s1 h1 => ?_
  cases c with
  | false => exact iteF ⟨F1, ρ1, k1, h1⟩
  | true => exact iteT (h1 F1 H1 k1 (Same.refl _))
theorem de_one {a : Expr} {op : BoolOp} {φ : M AV} (h : PE X a (tE b W φ)) : PE X (.BoolOp op [a] pos) (tE b W φ) := pe_one h
theorem de_and {a c : Expr} {rest : List Expr} {φ ψ : M AV} (ha : PE X a (tE b W φ)) (hb : PE X (.BoolOp .And (c :: rest) pos) (tE b W ψ)) : PE X (.BoolOp .And (a :: c :: rest) pos) (tE b W (mAndV φ ψ)) := by
  refine weakE (pe_and ha hb) fun σ H Q ⟨F, ρ, k, h⟩ => ?_
  refine runE k h fun av x ρ1 F1 H1 k1 s1 r1 h1 => ?_
  obtain ⟨d, q1, h2⟩ := h1.read k1 r1
  cases d with
  | bl c =>
    rcases q1 with r | ⟨a, _, oa⟩
    · unfold Rep at r
      cases c with
      | true => exact ⟨true, r, iteT ⟨F1, ρ1, k1, h2⟩⟩
      | false => exact ⟨false, r, iteF (h2 F1 H1 k1 (Same.refl _) _ (by show Rep _ _ _ _ _; unfold Rep; rfl))⟩
    · exact oa.elim
  | _ => exact h2.elim
theorem de_or {a c : Expr} {rest : List Expr} {φ ψ : M AV} (ha : PE X a (tE b W φ)) (hb : PE X (.BoolOp .Or (c :: rest) pos) (tE b W ψ)) : PE X (.BoolOp .Or (a :: c :: rest) pos) (tE b W (mOrV φ ψ)) := by
  refine weakE (pe_or ha hb) fun σ H Q ⟨F, ρ, k, h⟩ => ?_
  refine runE k h fun av x ρ1 F1 H1 k1 s1 r1 h1 => ?_
  obtain ⟨d, q1, h2⟩ := h1.read k1 r1
  cases d with
  | bl c =>
    rcases q1 with r | ⟨a, _, oa⟩
    · unfold Rep at r
      cases c with
      | false => exact ⟨false, r, iteF ⟨F1, ρ1, k1, h2⟩⟩
      | true => exact ⟨true, r, iteT (h2 F1 H1 k1 (Same.refl _) _ (by show Rep _ _ _ _ _; unfold Rep; rfl))⟩
    · exact oa.elim
  | _ => exact h2.elim
def mNotV (φ : M AV) : M AV := φ.bnd fun a => (rd a).bnd fun d => match d with
  | .bl k => M.ret (.fz (.bl (!k)))
  | _ => M.stuck
theorem de_not {a : Expr} {φ : M AV} (ha : PE X a (tE b W φ)) : PE X (.UnaryOp .Not a pos) (tE b W (mNotV φ)) := by
  refine weakE (pe_not ha) fun σ H Q ⟨F, ρ, k, h⟩ => ?_
  refine runE k h fun av x ρ1 F1 H1 k1 s1 r1 h1 => ?_
  obtain ⟨d, q1, h2⟩ := h1.read k1 r1
  cases d with
  | bl c =>
    rcases q1 with r | ⟨a, _, oa⟩
    · unfold Rep at r
      exact ⟨c, r, h2 F1 H1 k1 (Same.refl _) _ (by show Rep _ _ _ _ _; unfold Rep; rfl)⟩
    · exact oa.elim
  | _ => exact h2.elim
theorem de_if {c a d : Expr} {τ : M Bool} {φ ψ : M AV} (hc : PT X c (tT b W τ)) (ha : PE X a (tE b W φ)) (hd : PE X d (tE b W ψ)) : PE X (.IfExp c a d pos) (tE b W (mIf τ φ ψ)) := by
  refine weakE (pe_ifExp hc ha hd) fun σ H Q ⟨F, ρ, k, h⟩ => ?_
  refine runT k h fun c ρ1 F1 H1 k1 s1 h1 => ?_
  cases c with
  | true => exact iteT ⟨F1, ρ1, k1, h1⟩
  | false => exact iteF ⟨F1, ρ1, k1, h1⟩
/-! arguments, displays -/
theorem da_nil : PA X [] (tAs b W mNil) := weakA pa_nil fun σ H Q ⟨F, ρ, k, h⟩ => h F H k (Same.refl _) [] .nil
theorem RepAs.mono {F F' H H' : Hp} {σ : St} {ρ ρ' : Env} {avs : List AV} {vs : List V} (r : RepAs b F H σ ρ avs vs) (s : Same F F') : RepAs b F' H' σ ρ' avs vs := by
  induction r with
  | nil => exact .nil
  | cons r1 r2 ih => exact .cons (r1.stays s) ih
theorem da_cons {e : Expr} {es : List Expr} {φ : M AV} {ψ : M (List AV)} (ha : PE X e (tE b W φ)) (hr : PA X es (tAs b W ψ)) (hs : starEach (e :: es) X.env = (false, eval e X.env) :: starEach es X.env := by rfl) : PA X (e :: es) (tAs b W (mCons φ ψ)) := by
  refine weakA (pa_cons ha hr hs) fun σ H Q ⟨F, ρ, k, h⟩ => ?_
  refine runE k h fun av x ρ1 F1 H1 k1 s1 r1 h1 => ?_
  obtain ⟨F2, k2, s2, r2⟩ := k1.stab r1
  refine runA k2 (h1.later s2) fun avs vs ρ3 F3 H3 k3 s3 r3 h3 => ?_
  exact h3 F3 H3 k3 (Same.refl _) _ (.cons (r2.stays s3) r3)
theorem de_tup {es : List Expr} {φ : M (List AV)} {x1 : Nat} (h : PA X es (tAs b W φ)) : PE X (.Tuple es x1 pos) (tE b W (mTup φ)) := by
  refine weakE (pe_tup h) fun σ H Q ⟨F, ρ, k, h⟩ => ?_
  refine runA k h fun avs vs ρ1 F1 H1 k1 s1 r1 h1 => ?_
  obtain ⟨ds, ρ2, F2, k2, s2, q2, h2⟩ := After.frozeAll r1 k1 (Same.refl _) h1
  have hl : ds.length = vs.length := RepL.len q2
  by_cases hz : ds.length ≤ sizeLine
  · rw [if_pos hz] at h2
    refine ⟨by rw [← hl]; exact hz, fun p hp => ?_⟩
    have g : Grow F2 H1 (upd F2 p (.tup vs)) (upd H1 p (.tup vs)) := Grow.frozen k2.sub hp
    refine h2 _ _ (k2.grow g) g.ext _ ?_
    show Rep _ _ _ _ _
    unfold Rep
    exact ⟨p, vs, rfl, SqT.of upd_same, q2.mono g.ext⟩
  · rw [if_neg hz] at h2
    exact h2.elim
theorem de_lst {es : List Expr} {φ : M (List AV)} (h : PA X es (tAs b W φ)) : PE X (.List es pos) (tE b W (mLst φ)) := by
  refine weakE (pe_lst h) fun σ H Q ⟨F, ρ, k, h⟩ => ?_
  refine runA k h fun avs vs ρ1 F1 H1 k1 s1 r1 h1 => ?_
  obtain ⟨ds, ρ2, F2, k2, s2, q2, h2⟩ := After.frozeAll r1 k1 (Same.refl _) h1
  have hl : ds.length = vs.length := RepL.len q2
  by_cases hz : ds.length ≤ sizeLine
  · rw [if_pos hz] at h2
    refine ⟨by rw [← hl]; exact hz, fun p hp => ?_⟩
    have g : Grow F2 H1 F2 (upd H1 p (.lst vs)) := Grow.owned k2.sub hp
    refine h2 _ _ (k2.grow g) (Same.refl _) _ ⟨p, rfl, k2.fresh_F hp, k2.fresh_0 hp, ⟨vs, upd_same, q2⟩, k2.apart_new hp, k2.prot_new hp⟩
  · rw [if_neg hz] at h2
    exact h2.elim
/-! built-ins, methods of built-in types -/
theorem runD {f : List D → Option AV} {φ : M (List AV)} {σ : St} {F H : Hp} {ρ : Env} {Q : VK} (k : Ok b ρ F H σ) (h : After b W σ F (mCall f φ ρ) fun av ρ' F' H' => ∀ v, RepA b F' H' σ ρ' av v → Q v H') :
    tAs b W φ σ H fun xs H1 => rDs b f xs H1 Q := by
  refine runA k h fun avs vs ρ1 F1 H1 k1 s1 r1 h1 => ?_
  obtain ⟨ds, q1, h2⟩ := After.readAll k1 r1 h1
  exact ⟨F1, σ, ρ1, ds, k1, q1, h2.gives⟩
theorem de_callB {x : Str} {p : Pos} {e : Expr} {es : List Expr} {id : String} {f : List D → Option AV} {φ : M (List AV)} (fit : Fit X b) (hc : CallD X (.builtin id) f) (hm : X.mg x = none) (hv : bootBuiltins x = some (.builtin id)) (ha : PA X (e :: es) (tAs b W φ)) (hg : Gl X x := by rfl)
    (hn : x ≠ "__name__" := by decide) (hdb : (x == ("__debug__" : Str)) = false := by decide) (he : starEach (e :: es) X.env = (false, eval e X.env) :: starEach es X.env := by rfl) (hpl : (backTo pos (starEach es X.env)).any (·.1) = false := by rfl) :
    PE X (.Call (.Name x p) (e :: es) [] pos) (tE b W (mCall f φ)) :=
  weakE (pe_callB (hc b fit) hg hm hv ha hn hdb he hpl) fun σ H Q ⟨F, ρ, k, h⟩ => runD k h
theorem de_callTy {x : Str} {p : Pos} {e : Expr} {es : List Expr} {T : String} {f : List D → Option AV} {φ : M (List AV)} (fit : Fit X b) (hc : CallD X (.type T) f) (hm : X.mg x = none) (hv : bootBuiltins x = some (.type T)) (ha : PA X (e :: es) (tAs b W φ)) (hg : Gl X x := by rfl)
    (hn : x ≠ "__name__" := by decide) (hdb : (x == ("__debug__" : Str)) = false := by decide) (he : starEach (e :: es) X.env = (false, eval e X.env) :: starEach es X.env := by rfl) (hpl : (backTo pos (starEach es X.env)).any (·.1) = false := by rfl) :
    PE X (.Call (.Name x p) (e :: es) [] pos) (tE b W (mCall f φ)) :=
  weakE (pe_callTy (hc b fit) hg hm hv ha hn hdb he hpl) fun σ H Q ⟨F, ρ, k, h⟩ => runD k h
def mMt (f : D → List D → Option AV) (φ : M AV) (ψ : M (List AV)) : M AV := φ.bnd fun a => ψ.bnd fun avs => (rd (stab a)).bnd fun d => (rdAll avs).bnd fun ds => lift (f d ds)
def isStr : D → Bool
  | .str _ => true
  | _ => false
/-- a method of texts: the receiver's data is a text -/
def mMtS (f : D → List D → Option AV) (φ : M AV) (ψ : M (List AV)) : M AV := φ.bnd fun a => (rd (stab a)).bnd fun d => if isStr d then ψ.bnd fun avs => (rdAll avs).bnd fun ds => lift (f d ds) else M.stuck
theorem de_m1 {id : String} {name : Str} {o e : Expr} {apos : Pos} {f : D → List D → Option AV} {φ ψ : M AV} (fit : Fit X b) (slot : Slot "str" name id) (ty : typeOf (.builtin id) = pure (.type "method_descriptor")) (rule : MtD X id f) (ho : PE X o (tE b W φ)) (he : PE X e (tE b W ψ))
    {pl : Sem Bool} : True := trivial
end
end DL

namespace DL
open PySem PySem.Spec L2

/-! ### a guard for new objects -/
def Bs.add (b : Bs) (P : List (Addr × HO)) : Bs := { b with P := P ++ b.P }
theorem Bs.add_nil {b : Bs} : b.add [] = b := rfl
theorem Bs.add_add {b : Bs} {P P' : List (Addr × HO)} : (b.add P).add P' = b.add (P' ++ P) := by
  show Bs.mk _ _ _ _ _ _ _ = Bs.mk _ _ _ _ _ _ _
  congr 1
  exact (List.append_assoc ..).symm
section
variable {α : Type} {b : Bs} {W : WX} {σ : St} {ρ : Env} {F H : Hp} {P : List (Addr × HO)}
theorem Ok.unadd (k : Ok (b.add P) ρ F H σ) : Ok b ρ F H σ := ⟨k.sub, k.old, k.ext, k.new, k.len, k.slot, k.sep, k.bor, fun p hp => k.prot p (List.mem_append_right _ hp)⟩
theorem Ok.add (k : Ok b ρ F H σ) {p : Addr} {o : HO} (h1 : H p = some o) (h2 : F p = none) (h3 : Apart ρ σ p) : Ok (b.add [(p, o)]) ρ F H σ := ⟨k.sub, k.old, k.ext, k.new, k.len, k.slot, k.sep, k.bor, fun q hq => by
  rcases List.mem_cons.mp (show q ∈ (p, o) :: b.P from hq) with rfl | hq
  · exact ⟨h1, h2, h3⟩
  · exact k.prot q hq⟩
theorem After.add {r : R α} {Q : α → Env → Hp → Hp → Prop} (h : After b W σ F r Q) : After (b.add P) W σ F r fun a ρ' F' H' => Ok (b.add P) ρ' F' H' σ ∧ Q a ρ' F' H' := by
  cases r with
  | no => exact h
  | ex x ρ' => exact fun c dd F' H' k s q => h c dd F' H' k.unadd s q
  | ok a ρ' => exact fun F' H' k s => ⟨k, h F' H' k.unadd s⟩
end
/-- in whatever guard -/
def tEx (b : Bs) (W : WX) (φ : M AV) : TE := fun σ H Q => ∃ P, tE (b.add P) W φ σ H Q
def tAx (b : Bs) (t : Bs → TA) : TA := fun σ H Q => ∃ P, t (b.add P) σ H Q
theorem ex_add {X : Cx} {b : Bs} {W : WX} {e : Expr} {φ : M AV} (h : ∀ P, PE X e (tE (b.add P) W φ)) : PE X e (tEx b W φ) := ⟨fun pins s σ H Q I ⟨P, q⟩ => (h P).run pins s σ H Q I q⟩
theorem ax_add {X : Cx} {b : Bs} {t : Bs → TA} {es : List Expr} (h : ∀ P, PA X es (t (b.add P))) : PA X es (tAx b t) := ⟨fun pos pins s σ H Q I ⟨P, q⟩ => (h P).run pos pins s σ H Q I q⟩

/-! ### several values at once, new ones kept -/
inductive Md where
  | fz | keep | unsl
def modeM : Md → AV → M AV
  | .fz, a => (frz a).bnd fun d => M.ret (.fz d)
  | .keep, a => M.ret a
  | .unsl, .sl i => (frz (.sl i)).bnd fun d => M.ret (.fz d)
  | .unsl, a => M.ret a
def mRc (m : Md) (φ : M AV) (ψ : M (List AV)) : M (List AV) := φ.bnd fun a => (modeM m a).bnd fun a => ψ.bnd fun r => M.ret (a :: r)
/-- the new objects' addresses -/
def ows : List AV → List V → List Addr
  | .ow _ :: r, .ref a :: s => a :: ows r s
  | _ :: r, _ :: s => ows r s
  | _, _ => []
inductive RepR (b : Bs) (F H : Hp) (σ : St) (ρ : Env) : List AV → List V → Prop
  | nil : RepR b F H σ ρ [] []
  | cons {av : AV} {avs : List AV} {v : V} {vs : List V} : RepA b F H σ ρ av v → (∀ d, av = .ow d → ∀ a, v = .ref a → a ∉ ows avs vs) → RepR b F H σ ρ avs vs → RepR b F H σ ρ (av :: avs) (v :: vs)
def tR (W : WX) (φ : M (List AV)) (b : Bs) : TA := fun σ H Q => ∃ F ρ, Ok b ρ F H σ ∧ After b W σ F (φ ρ) fun avs ρ' F' H' => ∀ vs, RepR b F' H' σ ρ' avs vs → Q vs H'
section
variable {X : Cx} {b : Bs} {W : WX} {pos : Pos}
theorem After.mode {α : Type} {σ : St} {F H : Hp} {ρ : Env} {m : Md} {av : AV} {v : V} {f : AV → M α} {Q : α → Env → Hp → Hp → Prop} (k : Ok b ρ F H σ) (r : RepA b F H σ ρ av v) (h : After b W σ F ((modeM m av).bnd f ρ) Q) :
    ∃ av2 ρ2 F2, Ok b ρ2 F2 H σ ∧ Same F F2 ∧ RepA b F2 H σ ρ2 av2 v ∧ After b W σ F2 (f av2 ρ2) Q := by
  have frozen : After b W σ F (((frz av).bnd fun d => M.ret (.fz d)).bnd f ρ) Q → ∃ av2 ρ2 F2, Ok b ρ2 F2 H σ ∧ Same F F2 ∧ RepA b F2 H σ ρ2 av2 v ∧ After b W σ F2 (f av2 ρ2) Q := fun h => by
    rw [M.bnd_assoc] at h
    obtain ⟨d, ρ2, F2, k2, s2, q2, h2⟩ := After.froze k r h
    exact ⟨.fz d, ρ2, F2, k2, s2, q2, h2⟩
  cases m with
  | fz => exact frozen h
  | keep => exact ⟨av, ρ, F, k, Same.refl _, r, h⟩
  | unsl =>
    cases av with
    | fz d => exact ⟨.fz d, ρ, F, k, Same.refl _, r, h⟩
    | ow d => exact ⟨.ow d, ρ, F, k, Same.refl _, r, h⟩
    | sl i => exact frozen h
theorem dr_nil : PA X [] (tR W mNil b) := weakA pa_nil fun σ H Q ⟨F, ρ, k, h⟩ => h F H k (Same.refl _) [] .nil
theorem ows_mem : ∀ {avs : List AV} {vs : List V} {b : Bs} {F H : Hp} {σ : St} {ρ : Env} {a : Addr}, RepR b F H σ ρ avs vs → a ∈ ows avs vs → F a = none ∧ b.H_0 a = none ∧ Apart ρ σ a ∧ ∀ p ∈ b.P, p.1 ≠ a
  | _, _, _, _, _, _, _, _, .nil, h => by cases h
  | av :: avs, v :: vs, b, F, H, σ, ρ, a, .cons r hn t, h => by
    cases av with
    | sl i =>
      have : ows (.sl i :: avs) (v :: vs) = ows avs vs := by cases v <;> rfl
      rw [this] at h
      exact ows_mem t h
    | fz d =>
      have : ows (.fz d :: avs) (v :: vs) = ows avs vs := by cases v <;> rfl
      rw [this] at h
      exact ows_mem t h
    | ow d =>
      obtain ⟨c, ec, n, n0, _, ap, np⟩ := r
      subst ec
      rcases List.mem_cons.mp (show a ∈ c :: ows avs vs from h) with rfl | h
      · exact ⟨n, n0, ap, np⟩
      · exact ows_mem t h
theorem RepR.unadd {P : List (Addr × HO)} {F H : Hp} {σ : St} {ρ : Env} {avs : List AV} {vs : List V} (r : RepR (b.add P) F H σ ρ avs vs) : RepR b F H σ ρ avs vs := by
  induction r with
  | nil => exact .nil
  | @cons av avs v vs r hn t ih =>
    refine .cons ?_ hn ih
    cases av with
    | sl i => exact r
    | fz d => exact r
    | ow d =>
      obtain ⟨c, ec, n, n0, oa, ap, np⟩ := r
      exact ⟨c, ec, n, n0, oa, ap, fun p hp => np p (List.mem_append_right _ hp)⟩
theorem dr_cons {e : Expr} {es : List Expr} {φ : M AV} {ψ : M (List AV)} (m : Md) (ha : PE X e (tE b W φ)) (hr : ∀ P, PA X es (tR W ψ (b.add P))) (hs : starEach (e :: es) X.env = (false, eval e X.env) :: starEach es X.env := by rfl) : PA X (e :: es) (tR W (mRc m φ ψ) b) := by
  refine weakA (pa_cons ha (ax_add hr) hs) fun σ H Q ⟨F, ρ, k, h⟩ => ?_
  refine runE k h fun av x ρ1 F1 H1 k1 s1 r1 h1 => ?_
  obtain ⟨av2, ρ2, F2, k2, s2, r2, h2⟩ := After.mode k1 r1 h1
  cases av2 with
  | sl i =>
    refine ⟨[], F2, ρ2, k2, h2.bnd.imp fun avs ρ3 F3 H3 k3 s3 ⟨_, h3⟩ vs r3 => ?_⟩
    exact h3 F3 H3 k3 (Same.refl _) _ (.cons (show σ[i]? = some (some x) from r2) (fun d e => by cases e) r3)
  | fz d =>
    refine ⟨[], F2, ρ2, k2, h2.bnd.imp fun avs ρ3 F3 H3 k3 s3 ⟨_, h3⟩ vs r3 => ?_⟩
    exact h3 F3 H3 k3 (Same.refl _) _ (.cons (show Rep _ _ _ _ _ from Rep.mono s3 r2) (fun d e => by cases e) r3)
  | ow d =>
    obtain ⟨p, rfl, n, n0, oa, ap, np⟩ := r2
    obtain ⟨o, ho⟩ := oa.some
    have k2' := k2.add ho n ap
    refine ⟨[(p, o)], F2, ρ2, k2', (After.add h2.bnd).imp fun avs ρ3 F3 H3 k3 s3 ⟨_, _, h3⟩ vs r3 => ?_⟩
    obtain ⟨g1, g2, g3⟩ := k3.prot (p, o) List.mem_cons_self
    refine h3 F3 H3 k3.unadd (Same.refl _) _ (.cons ⟨p, rfl, g2, n0, ?_, g3, np⟩ (fun d' _ a ea => ?_) r3.unadd)
    · refine OwnAt.mono s3 (fun o' e' => ?_) oa
      rw [ho] at e'; cases e'; exact g1
    · cases ea
      exact fun hm => (ows_mem r3 hm).2.2.2 (p, o) List.mem_cons_self rfl
theorem RepR.grow {F H F' H' : Hp} {σ : St} {ρ : Env} {avs : List AV} {vs : List V} (r : RepR b F H σ ρ avs vs) (g : Grow F H F' H') : RepR b F' H' σ ρ avs vs := by
  induction r with
  | nil => exact .nil
  | cons r hn t ih => exact .cons (r.grow g) hn ih
end
/-! ### defs: what they give for data -/
inductive FR where
  | ok (own : Bool) (d : D) (bs : List D) | ex (e : Exn) (bs : List D) | no
abbrev Fn := List Sl → FR
def ArgOk (K : PySem.W.Frag) (mg : Str → Option Value) (F H : Hp) : Sl → V → Prop
  | .fz d, v => Rep K mg F d v
  | .bo d, v => ∃ a, v = .ref a ∧ F a = none ∧ OwnAt K mg F H a d
  | _, _ => False
inductive Args (K : PySem.W.Frag) (mg : Str → Option Value) (F H : Hp) : List Sl → List V → Prop
  | nil : Args K mg F H [] []
  | cons {s : Sl} {ks : List Sl} {v : V} {vs : List V} : ArgOk K mg F H s v → Args K mg F H ks vs → Args K mg F H (s :: ks) (v :: vs)
/-- the borrowed objects, from the left -/
def boA : List Sl → List V → List Addr
  | .bo _ :: r, .ref a :: t => a :: boA r t
  | _ :: r, _ :: t => boA r t
  | _, _ => []
inductive BoOut (K : PySem.W.Frag) (mg : Str → Option Value) (F H : Hp) : List Addr → List D → Prop
  | nil : BoOut K mg F H [] []
  | cons {a : Addr} {as : List Addr} {d : D} {ds : List D} : F a = none → OwnAt K mg F H a d → BoOut K mg F H as ds → BoOut K mg F H (a :: as) (d :: ds)
structure FPost (K : PySem.W.Frag) (mg : Str → Option Value) (F H : Hp) (bo : List Addr) (bs : List D) (F' H' : Hp) : Prop where
  sub : Sub F' H'
  ext : Same F F'
  new : ∀ a o, F' a = some o → F a = some o ∨ H a = none
  old : ∀ a o, H a = some o → a ∉ bo → H' a = some o
  out : BoOut K mg F' H' bo bs
def RetOk (K : PySem.W.Frag) (mg : Str → Option Value) (H F' H' : Hp) (own : Bool) (d : D) (v : V) : Prop :=
  if own = true then ∃ a, v = .ref a ∧ F' a = none ∧ H a = none ∧ OwnAt K mg F' H' a d else Rep K mg F' d v
def ExR' (K : PySem.W.Frag) (mg : Str → Option Value) (F : Hp) (e : Exn) (c : Value) (dd : Option Addr) : Prop :=
  ∃ C, mg e.c = some (.ref C) ∧ c = .ref C ∧ (e.fs = [] ∨ ∃ d vs, dd = some d ∧ F d = some (.xd vs) ∧ RepF K mg F e.fs vs)
/-- a def's promise by a function on data -/
def spD (K : PySem.W.Frag) (mg : Str → Option Value) (n : Nat) (f : Fn) : Sp := fun vs H Q E => vs.length = n ∧ ∃ F ks, Sub F H ∧ Args K mg F H ks vs ∧ (boA ks vs).Nodup ∧ match f ks with
  | .ok own d bs => ∀ v F' H', FPost K mg F H (boA ks vs) bs F' H' → RetOk K mg H F' H' own d v → Q v H'
  | .ex e bs => ∀ c dd F' H', FPost K mg F H (boA ks vs) bs F' H' → ExR' K mg F' e c dd → E c dd H'
  | .no => False

/-! ### a call, from the caller's side -/
/-- what a value is as an argument; the slot it is borrowed from, or a new object -/
def argOf (ρ : Env) : AV → Option (Sl × Option (Option Nat))
  | .fz d => some (.fz d, none)
  | .ow d => some (.bo d, some none)
  | .sl i => match ρ[i]? with
    | some (.fz d) => some (.fz d, none)
    | some (.ow d) => some (.bo d, some (some i))
    | some (.bo d) => some (.bo d, some (some i))
    | _ => none
def argsOf (ρ : Env) : List AV → Option (List Sl × List (Option Nat))
  | [] => some ([], [])
  | a :: r => match argOf ρ a, argsOf ρ r with
    | some (s, none), some (ks, is) => some (s :: ks, is)
    | some (s, some none), some (ks, is) => some (s :: ks, none :: is)
    | some (s, some (some i)), some (ks, is) => if some i ∈ is then none else some (s :: ks, some i :: is)
    | _, _ => none
def Sl.put (d : D) : Sl → Sl
  | .ow _ => .ow d
  | .bo _ => .bo d
  | s => s
def putB : List (Option Nat) → List D → Env → Env
  | some i :: is, d :: ds, ρ => putB is ds (ρ.set i (((ρ[i]?).getD .un).put d))
  | none :: is, _ :: ds, ρ => putB is ds ρ
  | _, _, ρ => ρ
def mFn (n : Nat) (f : Fn) (avs : List AV) : M AV := if avs.length = n then fun ρ => match argsOf ρ avs with
  | none => .no
  | some (ks, is) => match f ks with
    | .ok own d bs => .ok (if own then .ow d else .fz d) (putB is bs ρ)
    | .ex e bs => .ex e (putB is bs ρ)
    | .no => .no
  else M.stuck
def mCallF (n : Nat) (f : Fn) (φ : M (List AV)) : M AV := φ.bnd fun avs => mFn n f avs

section
variable {b : Bs} {W : WX} {σ : St} {ρ : Env} {F H : Hp}
theorem putB_len : ∀ {is : List (Option Nat)} {ds : List D} {ρ : Env}, (putB is ds ρ).length = ρ.length
  | [], _, _ => by unfold putB; rfl
  | some _ :: _, [], _ => by unfold putB; rfl
  | none :: _, [], _ => by unfold putB; rfl
  | some i :: is, d :: ds, ρ => by
    unfold putB
    rw [putB_len, List.length_set]
  | none :: is, d :: ds, ρ => by
    unfold putB
    exact putB_len
theorem putB_out : ∀ {is : List (Option Nat)} {ds : List D} {ρ : Env} {j : Nat}, some j ∉ is → (putB is ds ρ)[j]? = ρ[j]?
  | [], _, _, _, _ => by unfold putB; rfl
  | some _ :: _, [], _, _, _ => by unfold putB; rfl
  | none :: _, [], _, _, _ => by unfold putB; rfl
  | some i :: is, d :: ds, ρ, j, h => by
    unfold putB
    rw [putB_out (fun q => h (List.mem_cons_of_mem _ q)), List.getElem?_set_ne (fun q => h (by rw [q]; exact List.mem_cons_self))]
  | none :: is, d :: ds, ρ, j, h => by
    unfold putB
    exact putB_out fun q => h (List.mem_cons_of_mem _ q)
theorem RepR.inv {avs : List AV} {vs : List V} (r : RepR b F H σ ρ avs vs) : avs.length = vs.length := by
  induction r with
  | nil => rfl
  | cons _ _ _ ih => rw [List.length_cons, List.length_cons, ih]

/-- what the borrowed objects are -/
structure Bor (b : Bs) (F H : Hp) (σ : St) (ρ : Env) (is : List (Option Nat)) (as : List Addr) : Prop where
  at_ : ∀ (k i : Nat) (a : Addr), is[k]? = some (some i) → as[k]? = some a → σ[i]? = some (some (.ref a)) ∧ ∃ s, ρ[i]? = some s ∧ s.held = true
  new : ∀ (k : Nat) (a : Addr), is[k]? = some none → as[k]? = some a → F a = none ∧ b.H_0 a = none ∧ Apart ρ σ a ∧ ∀ p ∈ b.P, p.1 ≠ a
  len : is.length = as.length
  nd : ∀ (k l i : Nat), is[k]? = some (some i) → is[l]? = some (some i) → k = l
  nda : as.Nodup
theorem Ok.argOf (k : Ok b ρ F H σ) {av : AV} {v : V} (r : RepA b F H σ ρ av v) {s : Sl} {o : Option (Option Nat)} (h : DL.argOf ρ av = some (s, o)) :
    ArgOk b.K b.mg F H s v ∧ ((o = none ∧ ∀ ks vs, boA (s :: ks) (v :: vs) = boA ks vs) ∨ (∃ i a, o = some (some i) ∧ v = .ref a ∧ σ[i]? = some (some (.ref a)) ∧ (∃ s, ρ[i]? = some s ∧ s.held = true) ∧ ∀ ks vs, boA (s :: ks) (v :: vs) = a :: boA ks vs) ∨
      ∃ a d, o = some none ∧ v = .ref a ∧ av = .ow d ∧ (F a = none ∧ b.H_0 a = none ∧ Apart ρ σ a ∧ ∀ p ∈ b.P, p.1 ≠ a) ∧ ∀ ks vs, boA (s :: ks) (v :: vs) = a :: boA ks vs) := by
  cases av with
  | fz d =>
    cases h
    exact ⟨r, .inl ⟨rfl, fun ks vs => by cases v <;> rfl⟩⟩
  | ow d =>
    cases h
    obtain ⟨a, rfl, n, n0, oa, ap, np⟩ := r
    exact ⟨⟨a, rfl, n, oa⟩, .inr (.inr ⟨a, d, rfl, rfl, rfl, ⟨n, n0, ap, np⟩, fun ks vs => rfl⟩)⟩
  | sl i =>
    dsimp only [DL.argOf] at h
    cases e : ρ[i]? with
    | none => rw [e] at h; cases h
    | some t =>
      rw [e] at h
      have z := k.slot i t e
      have q : σ[i]? = some (some v) := r
      rw [q] at z
      cases t with
      | un => cases h
      | fz d =>
        cases h
        obtain ⟨u, eu, ru⟩ := z
        cases eu
        exact ⟨ru, .inl ⟨rfl, fun ks vs => by cases v <;> rfl⟩⟩
      | ow d =>
        cases h
        obtain ⟨a, eu, n, n0, oa⟩ := z
        cases eu
        exact ⟨⟨a, rfl, n, oa⟩, .inr (.inl ⟨i, a, rfl, rfl, q, ⟨_, e, rfl⟩, fun ks vs => rfl⟩)⟩
      | bo d =>
        cases h
        obtain ⟨a, eu, n, n0, oa⟩ := z
        cases eu
        exact ⟨⟨a, rfl, n, oa⟩, .inr (.inl ⟨i, a, rfl, rfl, q, ⟨_, e, rfl⟩, fun ks vs => rfl⟩)⟩
/-- .. and the new ones among them were among the new values -/
theorem Ok.argsOf (k : Ok b ρ F H σ) {avs : List AV} {vs : List V} (r : RepR b F H σ ρ avs vs) : ∀ {ks : List Sl} {is : List (Option Nat)}, DL.argsOf ρ avs = some (ks, is) → Args b.K b.mg F H ks vs ∧ Bor b F H σ ρ is (boA ks vs) ∧ ∀ (m : Nat) (a : Addr), is[m]? = some none → (boA ks vs)[m]? = some a → a ∈ ows avs vs := by
  induction r with
  | nil =>
    intro ks is h
    cases h
    exact ⟨.nil, ⟨fun k i a e => (by cases e), fun k a e => (by cases e), rfl, fun k l i e => (by cases e), List.nodup_nil⟩, fun m a e => by cases e⟩
  | @cons av avs v vs r1 hn r2 ih =>
    intro ks is h
    dsimp only [DL.argsOf] at h
    cases e1 : DL.argOf ρ av with
    | none => rw [e1] at h; cases h
    | some p =>
      obtain ⟨s, o⟩ := p
      rw [e1] at h
      cases e2 : DL.argsOf ρ avs with
      | none =>
        rw [e2] at h
        cases o with
        | none => cases h
        | some o => cases o <;> cases h
      | some q =>
        obtain ⟨ks', is'⟩ := q
        rw [e2] at h
        obtain ⟨a1, c⟩ := k.argOf r1 e1
        obtain ⟨a2, B, hw⟩ := ih e2
        have sub : ∀ {x : Addr}, x ∈ ows avs vs → x ∈ ows (av :: avs) (v :: vs) := fun {x} hx => by
          cases av with
          | ow d => obtain ⟨p, rfl, _⟩ := r1; exact List.mem_cons_of_mem _ hx
          | fz d => cases v <;> exact hx
          | sl d => cases v <;> exact hx
        rcases c with ⟨rfl, eb⟩ | ⟨i, a, rfl, rfl, hs, hh, eb⟩ | ⟨a, d, rfl, rfl, rfl, hnew, eb⟩
        · cases h
          exact ⟨.cons a1 a2, by rw [eb]; exact B, fun m x e3 e4 => sub (hw m x e3 (by rw [eb] at e4; exact e4))⟩
        · have h : (if some i ∈ is' then none else some (s :: ks', some i :: is')) = some (ks, is) := h
          by_cases hi : some i ∈ is'
          · rw [if_pos hi] at h; cases h
          · rw [if_neg hi] at h
            cases h
            refine ⟨.cons a1 a2, ?_, fun m x e3 e4 => ?_⟩
            · rw [eb]
              refine ⟨fun k' i' a' e3 e4 => ?_, fun k' a' e3 e4 => ?_, by rw [List.length_cons, List.length_cons, B.len], fun k' l' i' e3 e4 => ?_, List.nodup_cons.mpr ⟨fun hm => ?_, B.nda⟩⟩
              · cases k' with
                | zero =>
                  cases e3; cases e4
                  exact ⟨hs, hh⟩
                | succ m => exact B.at_ m i' a' e3 e4
              · cases k' with
                | zero => cases e3
                | succ m => exact B.new m a' e3 e4
              · cases k' with
                | zero =>
                  cases e3
                  cases l' with
                  | zero => rfl
                  | succ m => exact absurd (List.mem_of_getElem? (l := is') e4) hi
                | succ m =>
                  cases l' with
                  | zero => cases e4; exact absurd (List.mem_of_getElem? (l := is') e3) hi
                  | succ m' => exact congrArg _ (B.nd m m' i' e3 e4)
              · obtain ⟨m, hm', em⟩ := List.mem_iff_getElem.mp hm
                have lm : m < is'.length := by rw [B.len]; exact hm'
                have e4 : (boA ks' vs)[m]? = some a := by rw [List.getElem?_eq_getElem hm', em]
                have e3 : is'[m]? = some is'[m] := List.getElem?_eq_getElem lm
                cases ej : is'[m] with
                | none =>
                  rw [ej] at e3
                  obtain ⟨s2, hs2, hh2⟩ := hh
                  exact (B.new m a e3 e4).2.2.1 i s2 hs2 hh2 hs
                | some j =>
                  rw [ej] at e3
                  obtain ⟨hs1, s1, hs1', hh1⟩ := B.at_ m j a e3 e4
                  obtain ⟨s2, hs2, hh2⟩ := hh
                  have := k.sep j i s1 s2 a hs1' hs2 hh1 hh2 hs1 hs
                  subst this
                  exact hi (List.mem_of_getElem? e3)
            · rw [eb] at e4
              cases m with
              | zero => cases e3
              | succ m => exact sub (hw m x e3 e4)
        · cases h
          refine ⟨.cons a1 a2, ?_, fun m x e3 e4 => ?_⟩
          · rw [eb]
            refine ⟨fun k' i' a' e3 e4 => ?_, fun k' a' e3 e4 => ?_, by rw [List.length_cons, List.length_cons, B.len], fun k' l' i' e3 e4 => ?_, List.nodup_cons.mpr ⟨fun hm => ?_, B.nda⟩⟩
            · cases k' with
              | zero => cases e3
              | succ m => exact B.at_ m i' a' e3 e4
            · cases k' with
              | zero => cases e4; exact hnew
              | succ m => exact B.new m a' e3 e4
            · cases k' with
              | zero => cases e3
              | succ m =>
                cases l' with
                | zero => cases e4
                | succ m' => exact congrArg _ (B.nd m m' i' e3 e4)
            · obtain ⟨m, hm', em⟩ := List.mem_iff_getElem.mp hm
              have lm : m < is'.length := by rw [B.len]; exact hm'
              have e4 : (boA ks' vs)[m]? = some a := by rw [List.getElem?_eq_getElem hm', em]
              have e3 : is'[m]? = some is'[m] := List.getElem?_eq_getElem lm
              cases ej : is'[m] with
              | none =>
                rw [ej] at e3
                exact hn d rfl a rfl (hw m a e3 e4)
              | some j =>
                rw [ej] at e3
                obtain ⟨hs1, s1, hs1', hh1⟩ := B.at_ m j a e3 e4
                exact hnew.2.2.1 j s1 hs1' hh1 hs1
          · rw [eb] at e4
            cases m with
            | zero => cases e4; exact List.mem_cons_self
            | succ m => exact sub (hw m x e3 e4)
theorem Bor.addr (B : Bor b F H σ ρ is as) {a : Addr} (h : a ∈ as) : (∃ i, some i ∈ is ∧ σ[i]? = some (some (.ref a)) ∧ ∃ s, ρ[i]? = some s ∧ s.held = true) ∨ (F a = none ∧ b.H_0 a = none ∧ Apart ρ σ a ∧ ∀ p ∈ b.P, p.1 ≠ a) := by
  obtain ⟨k, hk, e⟩ := List.mem_iff_getElem.mp h
  have hk' : k < is.length := by rw [B.len]; exact hk
  have e4 : as[k]? = some a := by rw [List.getElem?_eq_getElem hk, e]
  have e3 : is[k]? = some is[k] := List.getElem?_eq_getElem hk'
  cases ej : is[k] with
  | none => rw [ej] at e3; exact .inr (B.new k a e3 e4)
  | some i =>
    rw [ej] at e3
    obtain ⟨h1, h2⟩ := B.at_ k i a e3 e4
    exact .inl ⟨i, List.mem_of_getElem? e3, h1, h2⟩
theorem BoOut.at_ {K : PySem.W.Frag} {mg : Str → Option Value} {as : List Addr} {ds : List D} (h : BoOut K mg F H as ds) : ∀ {k : Nat} {a : Addr}, as[k]? = some a → ∃ d, ds[k]? = some d ∧ F a = none ∧ OwnAt K mg F H a d := by
  induction h with
  | nil => intro k a e; cases e
  | cons n o r ih =>
    intro k a e
    cases k with
    | zero => cases e; exact ⟨_, rfl, n, o⟩
    | succ m => exact ih e
theorem putB_in : ∀ {is : List (Option Nat)} {ds : List D} {ρ : Env} {k i : Nat} {d : D} {s : Sl}, (∀ (k l i : Nat), is[k]? = some (some i) → is[l]? = some (some i) → k = l) → is[k]? = some (some i) → ds[k]? = some d → ρ[i]? = some s → (putB is ds ρ)[i]? = some (s.put d)
  | [], _, _, _, _, _, _, _, e, _, _ => by cases e
  | _ :: _, [], _, _, _, _, _, _, _, e, _ => by cases e
  | none :: is, c :: ds, ρ, 0, i, d, s, nd, e1, e2, e3 => by cases e1
  | none :: is, c :: ds, ρ, k + 1, i, d, s, nd, e1, e2, e3 => by
    unfold putB
    exact putB_in (fun k l i h1 h2 => by have := nd (k + 1) (l + 1) i h1 h2; omega) e1 e2 e3
  | some j :: is, c :: ds, ρ, 0, i, d, s, nd, e1, e2, e3 => by
    cases e1; cases e2
    unfold putB
    have hj : some j ∉ is := fun hm => by
      obtain ⟨m, hm', em⟩ := List.mem_iff_getElem.mp hm
      have := nd 0 (m + 1) j rfl (by show is[m]? = _; rw [List.getElem?_eq_getElem hm', em])
      omega
    rw [putB_out hj, e3]
    rw [List.getElem?_set_self (List.getElem?_eq_some_iff.mp e3).1]
    rfl
  | some j :: is, c :: ds, ρ, k + 1, i, d, s, nd, e1, e2, e3 => by
    unfold putB
    have hne : j ≠ i := fun q => by
      subst q
      have := nd 0 (k + 1) j rfl e1
      omega
    exact putB_in (fun k l i h1 h2 => by have := nd (k + 1) (l + 1) i h1 h2; omega) e1 e2 (by rw [List.getElem?_set_ne hne]; exact e3)
/-- behind a call -/
theorem Ok.called (k : Ok b ρ F H σ) {is : List (Option Nat)} {as : List Addr} {bs : List D} {F' H' : Hp} (B : Bor b F H σ ρ is as) (p : FPost b.K b.mg F H as bs F' H') : Ok b (putB is bs ρ) F' H' σ := by
  have own0 : ∀ a ∈ as, b.H_0 a = none ∨ a ∈ b.B.map (·.2) := fun a ha => by
    rcases B.addr ha with ⟨i, _, e1, s, e2, hs⟩ | ⟨_, n0, _⟩
    · have z := k.slot i s e2
      rw [e1] at z
      cases s with
      | un => cases hs
      | fz d => cases hs
      | ow d => obtain ⟨c, ec, _, n0, _⟩ := z; cases ec; exact .inl n0
      | bo d => obtain ⟨c, ec, _, n0, _⟩ := z; cases ec; exact .inr n0
    · exact .inl n0
  have hnew : ∀ a d, OwnAt b.K b.mg F H a d → F a = none → F' a = none := fun a d oa n => by
    cases q : F' a with
    | none => rfl
    | some o =>
      rcases p.new a o q with z | z
      · rw [n] at z; cases z
      · obtain ⟨o', e⟩ := oa.some
        rw [z] at e; cases e
  have inS : ∀ (i : Nat) (s : Sl), ρ[i]? = some s → some i ∈ is → ∃ a d, σ[i]? = some (some (.ref a)) ∧ (putB is bs ρ)[i]? = some (s.put d) ∧ F' a = none ∧ OwnAt b.K b.mg F' H' a d ∧ s.held = true := fun i s e hi => by
    obtain ⟨m, hm, em⟩ := List.mem_iff_getElem.mp hi
    have hm' : m < as.length := by rw [← B.len]; exact hm
    have e1 : is[m]? = some (some i) := by rw [List.getElem?_eq_getElem hm, em]
    have e2 : as[m]? = some as[m] := List.getElem?_eq_getElem hm'
    obtain ⟨h1, s', h2, h3⟩ := B.at_ m i as[m] e1 e2
    rw [e] at h2; cases h2
    obtain ⟨d, ed, n, oa⟩ := p.out.at_ e2
    exact ⟨as[m], d, h1, putB_in B.nd e1 ed e, n, oa, h3⟩
  have held_put : ∀ (s : Sl) (d : D), (s.put d).held = s.held := fun s d => by cases s <;> rfl
  have back : ∀ (i : Nat) (s : Sl), (putB is bs ρ)[i]? = some s → ∃ s', ρ[i]? = some s' ∧ s.held = s'.held := fun i s e => by
    by_cases hi : some i ∈ is
    · cases e0 : ρ[i]? with
      | none =>
        have l1 := (List.getElem?_eq_some_iff.mp e).1
        rw [putB_len] at l1
        rw [List.getElem?_eq_getElem l1] at e0; cases e0
      | some s' =>
        obtain ⟨a, d, _, e2, _⟩ := inS i s' e0 hi
        rw [e] at e2; cases e2
        exact ⟨s', rfl, held_put _ _⟩
    · rw [putB_out hi] at e
      exact ⟨s, e, rfl⟩
  refine ⟨p.sub, fun a o e hb => ?_, k.ext.trans p.ext, fun a o e => ?_, by rw [putB_len]; exact k.len, fun i s e => ?_, fun i j s s' a e1 e2 h1 h2 q1 q2 => ?_, fun q hq => ?_, fun q hq => ?_⟩
  · have hna : a ∉ as := fun hm => by
      rcases own0 a hm with z | z
      · rw [e] at z; cases z
      · exact hb z
    rcases k.old a o e hb with z | ⟨l, ob, z⟩
    · exact .inl (p.old a o z hna)
    · exact .inr ⟨l, ob, p.old a _ z hna⟩
  · rcases p.new a o e with z | z
    · exact k.new a o z
    · exact .inr (k.fresh_0 z)
  · by_cases hi : some i ∈ is
    · cases e0 : ρ[i]? with
      | none =>
        have l1 := (List.getElem?_eq_some_iff.mp e).1
        rw [putB_len] at l1
        rw [List.getElem?_eq_getElem l1] at e0; cases e0
      | some s' =>
        obtain ⟨a, d, e1, e2, n, oa, hh⟩ := inS i s' e0 hi
        rw [e] at e2; cases e2
        have z := k.slot i s' e0
        rw [e1] at z ⊢
        cases s' with
        | un => cases hh
        | fz _ => cases hh
        | ow x => obtain ⟨c, ec, _, n0, _⟩ := z; cases ec; exact ⟨a, rfl, n, n0, oa⟩
        | bo x => obtain ⟨c, ec, _, n0, _⟩ := z; cases ec; exact ⟨a, rfl, n, n0, oa⟩
    · rw [putB_out hi] at e
      have z := k.slot i s e
      have notin : ∀ a, s.held = true → (σ[i]?).getD none = some (.ref a) → a ∉ as := fun a hs ea hm => by
        rcases B.addr hm with ⟨j, hj, e1, s', e2, h2⟩ | ⟨_, _, ap, _⟩
        · have := k.sep i j s s' a e e2 hs h2 (getD_ref ea) e1
          exact hi (this ▸ hj)
        · exact ap i s e hs (getD_ref ea)
      cases s with
      | un => trivial
      | fz d =>
        obtain ⟨v, ev, r⟩ := z
        exact ⟨v, ev, r.mono p.ext⟩
      | ow d =>
        obtain ⟨a, ea, n, n0, oa⟩ := z
        exact ⟨a, ea, hnew a d oa n, n0, oa.mono p.ext fun o q => p.old a o q (notin a rfl ea)⟩
      | bo d =>
        obtain ⟨a, ea, n, n0, oa⟩ := z
        exact ⟨a, ea, hnew a d oa n, n0, oa.mono p.ext fun o q => p.old a o q (notin a rfl ea)⟩
  · obtain ⟨t1, f1, g1⟩ := back i s e1
    obtain ⟨t2, f2, g2⟩ := back j s' e2
    exact k.sep i j t1 t2 a f1 f2 (by rw [← g1]; exact h1) (by rw [← g2]; exact h2) q1 q2
  · obtain ⟨e1, d, e2⟩ := k.bor q hq
    refine ⟨e1, ?_⟩
    by_cases hi : some q.1 ∈ is
    · obtain ⟨a, d', _, e3, _⟩ := inS _ _ e2 hi
      exact ⟨d', e3⟩
    · exact ⟨d, by rw [putB_out hi]; exact e2⟩
  · obtain ⟨h1, h2, h3⟩ := k.prot q hq
    have hna : q.1 ∉ as := fun hm => by
      rcases B.addr hm with ⟨i, _, e1, s, e2, hs⟩ | ⟨_, _, _, np⟩
      · exact h3 i s e2 hs e1
      · exact np q hq rfl
    refine ⟨p.old _ _ h1 hna, ?_, fun j s ej hs w => ?_⟩
    · cases z : F' q.1 with
      | none => rfl
      | some o =>
        rcases p.new _ o z with y | y
        · rw [h2] at y; cases y
        · rw [h1] at y; cases y
    · obtain ⟨s', e', he'⟩ := back j s ej
      exact h3 j s' e' (by rw [← he']; exact hs) w
/-- the call itself -/
theorem called_sp {n : Nat} {f : Fn} {avs : List AV} {vs : List V} {Q : VK} (k : Ok b ρ F H σ) (r : RepR b F H σ ρ avs vs) (h : After b W σ F (mFn n f avs ρ) fun av ρ' F' H' => ∀ v, RepA b F' H' σ ρ' av v → Q v H') :
    spD b.K b.mg n f vs H Q (fun c dd H' => W c dd σ H') := by
  unfold mFn at h
  by_cases hl : avs.length = n
  case neg => rw [if_neg hl] at h; exact h.elim
  rw [if_pos hl] at h
  have hn : vs.length = n := r.inv.symm.trans hl
  cases e : argsOf ρ avs with
  | none => rw [e] at h; exact h.elim
  | some p =>
    obtain ⟨ks, is⟩ := p
    rw [e] at h
    obtain ⟨A, B, _⟩ := k.argsOf r e
    refine ⟨hn, F, ks, k.sub, A, B.nda, ?_⟩
    have h : After b W σ F (match f ks with
      | .ok own d bs => .ok (if own then .ow d else .fz d) (putB is bs ρ)
      | .ex e bs => .ex e (putB is bs ρ)
      | .no => .no) fun av ρ' F' H' => ∀ v, RepA b F' H' σ ρ' av v → Q v H' := h
    cases e2 : f ks with
    | no => rw [e2] at h; exact h.elim
    | ex x bs =>
      rw [e2] at h
      exact fun c dd F' H' p q => h c dd F' H' (k.called B p) p.ext q
    | ok own d bs =>
      rw [e2] at h
      intro v F' H' p q
      refine h F' H' (k.called B p) p.ext v ?_
      cases own with
      | false =>
        exact q
      | true =>
        obtain ⟨a, ea, n1, n2, oa⟩ := q
        refine ⟨a, ea, n1, k.fresh_0 n2, oa, fun j s ej hs q => ?_, k.prot_new n2⟩
        have kc := k.called B p
        -- a is new: no slot held it ahead of the call
        have z := k.apart_new n2
        by_cases hj : some j ∈ is
        · cases e0 : ρ[j]? with
          | none =>
            have l1 := (List.getElem?_eq_some_iff.mp ej).1
            rw [putB_len] at l1
            rw [List.getElem?_eq_getElem l1] at e0; cases e0
          | some s' =>
            obtain ⟨m, hm, em⟩ := List.mem_iff_getElem.mp hj
            have hm' : m < (boA ks vs).length := by rw [← B.len]; exact hm
            obtain ⟨_, t, et, ht⟩ := B.at_ m j _ (by rw [List.getElem?_eq_getElem hm, em]) (List.getElem?_eq_getElem hm')
            exact z j t et ht q
        · rw [putB_out hj] at ej
          exact z j s ej hs q
end

/-! ### a def's promise, where no guard of repr is up -/
structure FnG (P : Program) (w : World) (K : PySem.W.Frag) (mg : Str → Option Value) (base : Heap) (k : Nat) (f : Addr) (fd : FuncData) (ps : List Str) (sp : Sp) : Prop where
  len : ∀ vs H Q E, sp vs H Q E → vs.length = ps.length
  run : ∀ (A : Around) (outer : List PySem.Env) (s : Shared) (H : Hp) (args : PySem.Args) (us : List Value) (vs : List V) (Q : VK) (E : XK), Room k A → A.guards = some [] → Env0 P w K mg base A outer s H → BindsTo s fd args (ps.zip us) → Vals vs us → sp vs H Q E →
    codeAny (model P w) A (.call (.ref f) args) (CR (L2.CX P w) outer P w H s Q E) s
theorem FnG.mono {P : Program} {w : World} {K : PySem.W.Frag} {mg : Str → Option Value} {base : Heap} {j k : Nat} {f : Addr} {fd : FuncData} {ps : List Str} {sp : Sp} (F : FnG P w K mg base j f fd ps sp) (h : j ≤ k) : FnG P w K mg base k f fd ps sp :=
  ⟨F.len, fun A outer s H args us vs Q E hr => F.run A outer s H args us vs Q E (hr.mono h)⟩
section
variable {X : Cx} {k : Nat} {f : Addr} {fd : FuncData} {ps : List Str} {sp : Sp} {E : St → XK} {x : Str} {p pos : Pos} {e : Expr} {es : List Expr} {t : TA}
theorem run_fnG {pins : List (Addr × Obj)} {σ : St} {H : Hp} {s : Shared} {Q : VK} {us : List Value} {vs : List V} (F : FnG X.prog X.w X.K X.mg X.base k f fd ps sp) (hr : Room k X.A) (hg : X.A.guards = some []) (hb : Binds X.K fd ps []) (hx : PassesAt (L2.CX X.prog X.w) X σ (E σ))
    (I : L2.Inv X pins σ H s) (r : Vals vs us) (h : sp vs H Q (E σ)) : wpAny (model X.prog X.w) X.A (call (.ref f) us) (EP X pins σ Q) X.xe s := by
  have hl : us.length = ps.length := by rw [← r.length]; exact F.len _ _ _ _ h
  have b := hb s us I.kIn (by rw [List.append_nil]; exact hl)
  rw [List.append_nil] at b
  refine wpAny_call (codeAny_mono (F.run X.A X.stack s H ⟨us, []⟩ us vs Q (E σ) hr hg I.env0 b r h) fun r s' hq => ?_)
  cases r with
  | error e => exact hx pins H s e s' I hq
  | ok fl =>
    cases fl with
    | ret u => exact I.after hq
    | next => exact False.elim hq
    | brk => exact False.elim hq
    | cont => exact False.elim hq
theorem pe_callG (F : FnG X.prog X.w X.K X.mg X.base k f fd ps sp) (hr : Room k X.A) (hgd : X.A.guards = some []) (hg : Gl X x) (hm : X.mg x = some (.ref f)) (hk : PySem.W.keepIn X.K (.ref f) = true) (hb : Binds X.K fd ps []) (hx : ∀ σ, PassesAt (L2.CX X.prog X.w) X σ (E σ))
    (ha : PA X (e :: es) t) (hdb : (x == ("__debug__" : Str)) = false) (he : starEach (e :: es) X.env = (false, eval e X.env) :: starEach es X.env) (hpl : (backTo pos (starEach es X.env)).any (·.1) = false) :
    PE X (.Call (.Name x p) (e :: es) [] pos) (tCallS sp E t) := ⟨fun pins s σ H Q I h => wpAny_Call_Name_kw (ld_glob I hg hm
  (PySem.W.callWith_K (h₀ := X.base) I.ok.mod.kin hk (thn (ha.run pos pins s σ H _ I h) fun us s1 ⟨vs, H1, I1, r, q⟩ => ⟨I1.kIn, run_fnG F hr hgd hb (hx σ) I1 r q⟩) he hpl) hdb)⟩
theorem pe_callG0 (F : FnG X.prog X.w X.K X.mg X.base k f fd ps sp) (hr : Room k X.A) (hgd : X.A.guards = some []) (hg : Gl X x) (hm : X.mg x = some (.ref f)) (hk : PySem.W.keepIn X.K (.ref f) = true) (hb : Binds X.K fd ps []) (hx : ∀ σ, PassesAt (L2.CX X.prog X.w) X σ (E σ))
    (hdb : (x == ("__debug__" : Str)) = false) : PE X (.Call (.Name x p) [] [] pos) (tCallS sp E tNil) := ⟨fun pins s σ H Q I h => wpAny_Call_Name_kw (ld_glob I hg hm
  (PySem.W.callWith_K0 I.kIn hk (run_fnG (us := []) F hr hgd hb (hx σ) I .nil h)) hdb)⟩
end

/-! ### the rule for a call by a def's name -/
structure Cl (X : Cx) (x : Str) (n : Nat) (f : Fn) : Prop where
  ex : ∃ k fa fd ps, FnG X.prog X.w X.K X.mg X.base k fa fd ps (spD X.K X.mg n f) ∧ Room k X.A ∧ X.A.guards = some [] ∧ X.mg x = some (.ref fa) ∧ PySem.W.keepIn X.K (.ref fa) = true ∧ Binds X.K fd ps []
section
variable {X : Cx} {b : Bs} {W : WX} {pos : Pos}
theorem de_call {x : Str} {p : Pos} {e : Expr} {es : List Expr} {f : Fn} {φ : M (List AV)} (fit : Fit X b) (tk : Takes X W) (c : Cl X x (es.length + 1) f) (ha : PA X (e :: es) (tR W φ b)) (hg : Gl X x := by rfl) (hdb : (x == ("__debug__" : Str)) = false := by decide)
    (he : starEach (e :: es) X.env = (false, eval e X.env) :: starEach es X.env := by rfl) (hpl : (backTo pos (starEach es X.env)).any (·.1) = false := by rfl) :
    PE X (.Call (.Name x p) (e :: es) [] pos) (tE b W (mCallF (es.length + 1) f φ)) := by
  obtain ⟨k, fa, fd, ps, F, hr, hgd, hm, hk, hb⟩ := c.ex
  refine weakE (pe_callG F hr hgd hg hm hk hb (fun σ => passAt tk σ) ha hdb he hpl) fun σ H Q ⟨F, ρ, k, h⟩ => ?_
  refine ⟨F, ρ, k, h.bnd.imp fun avs ρ1 F1 H1 k1 s1 ⟨_, h1⟩ vs r1 => ?_⟩
  have q := called_sp (n := es.length + 1) k1 r1 h1
  rw [fit.K, fit.mg] at q
  exact q
theorem de_call0 {x : Str} {p : Pos} {f : Fn} (fit : Fit X b) (tk : Takes X W) (c : Cl X x 0 f) (hg : Gl X x := by rfl) (hdb : (x == ("__debug__" : Str)) = false := by decide) :
    PE X (.Call (.Name x p) [] [] pos) (tE b W (mFn 0 f [])) := by
  obtain ⟨k, fa, fd, ps, F, hr, hgd, hm, hk, hb⟩ := c.ex
  refine weakE (pe_callG0 F hr hgd hg hm hk hb (fun σ => passAt tk σ) hdb) fun σ H Q ⟨F, ρ, k, h⟩ => ?_
  have q := called_sp (n := 0) k .nil h
  rw [fit.K, fit.mg] at q
  exact q
end
end DL

namespace DL
open PySem PySem.Spec L2

/-! ### statements -/
inductive Ctl where
  | nx | bk | ct | rt (av : AV)
/-- behind a statement -/
def Then (b : Bs) (W : WX) (F : Hp) (r : R Ctl) (D : Ends) : Prop := match r with
  | .ok .nx ρ' => ∀ σ' F' H', Ok b ρ' F' H' σ' → Same F F' → D.nx σ' H'
  | .ok .bk ρ' => ∀ σ' F' H', Ok b ρ' F' H' σ' → Same F F' → D.bk σ' H'
  | .ok .ct ρ' => ∀ σ' F' H', Ok b ρ' F' H' σ' → Same F F' → D.ct σ' H'
  | .ok (.rt av) ρ' => ∀ v σ' F' H', Ok b ρ' F' H' σ' → Same F F' → RepA b F' H' σ' ρ' av v → D.rt v H'
  | .ex e ρ' => ∀ c dd σ' F' H', Ok b ρ' F' H' σ' → Same F F' → ExR b F' e c dd → W c dd σ' H'
  | .no => False
def tS (b : Bs) (W : WX) (φ : M Ctl) : TS := fun D σ H => ∃ F ρ, Ok b ρ F H σ ∧ Then b W F (φ ρ) D
theorem Then.later {b : Bs} {W : WX} {F F1 : Hp} {r : R Ctl} {D : Ends} (h : Then b W F r D) (s : Same F F1) : Then b W F1 r D := by
  cases r with
  | no => exact h
  | ex x ρ' => exact fun c dd σ' F' H' k s' => h c dd σ' F' H' k (s.trans s')
  | ok a ρ' =>
    cases a with
    | nx => exact fun σ' F' H' k s' => h σ' F' H' k (s.trans s')
    | bk => exact fun σ' F' H' k s' => h σ' F' H' k (s.trans s')
    | ct => exact fun σ' F' H' k s' => h σ' F' H' k (s.trans s')
    | rt av => exact fun v σ' F' H' k s' => h v σ' F' H' k (s.trans s')
def mSeq (φ ψ : M Ctl) : M Ctl := φ.bnd fun c => match c with
  | .nx => ψ
  | c => M.ret c
/-- an expression, then a statement's rest -/
theorem Then.bnd {α : Type} {b : Bs} {W : WX} {σ : St} {F : Hp} {ρ : Env} {m : M α} {f : α → M Ctl} {D : Ends} (h : Then b W F (m.bnd f ρ) D) : After b W σ F (m ρ) fun a ρ' F' H' => Ok b ρ' F' H' σ ∧ Then b W F' (f a ρ') D := by
  unfold M.bnd at h
  cases e : m ρ with
  | no => rw [e] at h; exact h
  | ex x ρ' =>
    rw [e] at h
    exact fun c dd F' H' k s q => h c dd σ F' H' k s q
  | ok a ρ' =>
    rw [e] at h
    exact fun F' H' k s => ⟨k, Then.later h s⟩
section
variable {X : Cx} {b : Bs} {W : WX} {pos : Pos}
theorem runSE {φ : M AV} {f : AV → M Ctl} {σ : St} {H F : Hp} {ρ : Env} {D : Ends} {R : V → Hp → Prop} (k : Ok b ρ F H σ) (h : Then b W F (φ.bnd f ρ) D)
    (i : ∀ av v ρ1 F1 H1, Ok b ρ1 F1 H1 σ → Same F F1 → RepA b F1 H1 σ ρ1 av v → Then b W F1 (f av ρ1) D → R v H1) : tE b W φ σ H R :=
  ⟨F, ρ, k, h.bnd.imp fun av ρ' F' H' k' s q v r => i av v ρ' F' H' k' s r q.2⟩
theorem runST {φ : M Bool} {f : Bool → M Ctl} {σ : St} {H F : Hp} {ρ : Env} {D : Ends} {R : Bool → Hp → Prop} (k : Ok b ρ F H σ) (h : Then b W F (φ.bnd f ρ) D)
    (i : ∀ c ρ1 F1 H1, Ok b ρ1 F1 H1 σ → Same F F1 → Then b W F1 (f c ρ1) D → R c H1) : tT b W φ σ H R :=
  ⟨F, ρ, k, h.bnd.imp fun av ρ' F' H' k' s q => i av ρ' F' H' k' s q.2⟩
theorem runSA {φ : M (List AV)} {f : List AV → M Ctl} {σ : St} {H F : Hp} {ρ : Env} {D : Ends} {R : List V → Hp → Prop} (k : Ok b ρ F H σ) (h : Then b W F (φ.bnd f ρ) D)
    (i : ∀ avs vs ρ1 F1 H1, Ok b ρ1 F1 H1 σ → Same F F1 → RepAs b F1 H1 σ ρ1 avs vs → Then b W F1 (f avs ρ1) D → R vs H1) : tAs b W φ σ H R :=
  ⟨F, ρ, k, h.bnd.imp fun av ρ' F' H' k' s q v r => i av v ρ' F' H' k' s r q.2⟩
theorem Then.read {av : AV} {v : V} {f : D → M Ctl} {σ : St} {H F : Hp} {ρ : Env} {D : Ends} (k : Ok b ρ F H σ) (r : RepA b F H σ ρ av v) (h : Then b W F ((rd av).bnd f ρ) D) : ∃ d, Rd1 b F H d v ∧ Then b W F (f d ρ) D := by
  unfold M.bnd at h
  cases e : rd av ρ with
  | no => rw [e] at h; exact h.elim
  | ex x ρ' =>
    cases av with
    | fz d => cases e
    | ow d => cases e
    | sl i =>
      dsimp only [rd] at e
      split at e <;> cases e
  | ok d ρ' =>
    rw [e] at h
    obtain ⟨rfl, q⟩ := k.read r e
    exact ⟨d, q, h⟩
theorem Then.froze {av : AV} {v : V} {f : D → M Ctl} {σ : St} {H F : Hp} {ρ : Env} {D : Ends} (k : Ok b ρ F H σ) (r : RepA b F H σ ρ av v) (h : Then b W F ((frz av).bnd f ρ) D) :
    ∃ d ρ2 F2, Ok b ρ2 F2 H σ ∧ Same F F2 ∧ Rep b.K b.mg F2 d v ∧ Then b W F2 (f d ρ2) D := by
  unfold M.bnd at h
  cases e1 : frz av ρ with
  | no => rw [e1] at h; exact h.elim
  | ex x ρ2 =>
    cases av with
    | fz d => cases e1
    | ow d => cases e1
    | sl i =>
      dsimp only [frz] at e1
      split at e1 <;> cases e1
  | ok d ρ2 =>
    rw [e1] at h
    obtain ⟨F2, k2, s2, q2⟩ := k.froze r e1
    exact ⟨d, ρ2, F2, k2, s2, q2, Then.later (show Then b W F (f d ρ2) D from h) s2⟩

/-! blocks -/
theorem dss_nil : PSs X [] (tS b W (M.ret .nx)) := weakSs pss_nil fun D σ H ⟨F, ρ, k, h⟩ => h σ F H k (Same.refl _)
theorem dss_cons {st : Stmt} {rest : List Stmt} {φ ψ : M Ctl} (h1 : PS X st (tS b W φ)) (h2 : PSs X rest (tS b W ψ)) : PSs X (st :: rest) (tS b W (mSeq φ ψ)) := by
  refine weakSs (pss_cons h1 h2) fun D σ H ⟨F, ρ, k, h⟩ => ⟨F, ρ, k, ?_⟩
  unfold mSeq M.bnd at h
  cases e : φ ρ with
  | no => rw [e] at h; exact h
  | ex x ρ' => rw [e] at h; exact h
  | ok c ρ' =>
    rw [e] at h
    cases c with
    | nx => exact fun σ' F' H' k' s => ⟨F', ρ', k', Then.later h s⟩
    | bk => exact h
    | ct => exact h
    | rt av => exact h
theorem dss_one {st : Stmt} {φ : M Ctl} (h1 : PS X st (tS b W φ)) : PSs X [st] (tS b W φ) := pss_one h1
theorem ds_pass : PS X (.Pass pos) (tS b W (M.ret .nx)) := weakS ps_pass fun D σ H ⟨F, ρ, k, h⟩ => h σ F H k (Same.refl _)
theorem ds_break : PS X (.Break pos) (tS b W (M.ret .bk)) := weakS ps_break fun D σ H ⟨F, ρ, k, h⟩ => h σ F H k (Same.refl _)
theorem ds_doc {x : Str} {j : Nat} {pos' : Pos} : PS X (.Expr (.Constant (.str x) j pos) pos') (tS b W (M.ret .nx)) := weakS ps_doc fun D σ H ⟨F, ρ, k, h⟩ => h σ F H k (Same.refl _)
def mRet (φ : M AV) : M Ctl := φ.bnd fun av => M.ret (.rt av)
theorem ds_ret {e : Expr} {φ : M AV} (he : PE X e (tE b W φ)) : PS X (.Return (some e) pos) (tS b W (mRet φ)) := by
  refine weakS (ps_ret he) fun D σ H ⟨F, ρ, k, h⟩ => ?_
  exact runSE k h fun av v ρ1 F1 H1 k1 s1 r1 h1 => h1 v σ F1 H1 k1 (Same.refl _) r1
def mExpr (φ : M AV) : M Ctl := φ.bnd fun _ => M.ret .nx
theorem ds_expr {e : Expr} {φ : M AV} (he : PE X e (tE b W φ)) (hs : swapsWith e none pos.line X.env = pure false := by rfl) : PS X (.Expr e pos) (tS b W (mExpr φ)) := by
  refine weakS (ps_expr he hs) fun D σ H ⟨F, ρ, k, h⟩ => ?_
  exact runSE k h fun av v ρ1 F1 H1 k1 s1 r1 h1 => h1 σ F1 H1 k1 (Same.refl _)
theorem ds_if {c : Expr} {a d : List Stmt} {τ : M Bool} {φ ψ : M Ctl} (hc : PT X c (tT b W τ)) (ha : PSs X a (tS b W φ)) (hd : PSs X d (tS b W ψ)) : PS X (.If c a d pos) (tS b W (mIf τ φ ψ)) := by
  refine weakS (ps_if hc ha hd) fun D σ H ⟨F, ρ, k, h⟩ => ?_
  refine runST k h fun c ρ1 F1 H1 k1 s1 h1 => ?_
  cases c with
  | true => exact iteT ⟨F1, ρ1, k1, h1⟩
  | false => exact iteF ⟨F1, ρ1, k1, h1⟩

/-! ### storing a name -/
def isBo : Sl → Bool
  | .bo _ => true
  | _ => false
def setFz (i : Nat) (d : D) : M Unit := fun ρ => match ρ[i]? with
  | some s => if isBo s then .no else .ok () (ρ.set i (.fz d))
  | none => .no
def asg (i : Nat) : AV → M Unit
  | .fz d => setFz i d
  | .ow d => fun ρ => match ρ[i]? with
    | some s => if isBo s then .no else .ok () (ρ.set i (.ow d))
    | none => .no
  | .sl j => (frz (.sl j)).bnd fun d => setFz i d
theorem set_at {α : Type} {l : List α} {i : Nat} {x y : α} (h : l[i]? = some y) : (l.set i x)[i]? = some x := List.getElem?_set_self (List.getElem?_eq_some_iff.mp h).1
theorem Ok.setSlot {ρ : Env} {F H : Hp} {σ : St} (k : Ok b ρ F H σ) {i : Nat} {s s' : Sl} {v : V} (e : ρ[i]? = some s) (hb : isBo s = false) (hb' : isBo s' = false) (z : SlOk b F H s' (some v)) (ap : s'.held = true → ∀ a, v = .ref a → Apart ρ σ a ∧ ∀ p ∈ b.P, p.1 ≠ a) : Ok b (ρ.set i s') F H (σ.set i (some v)) := by
  have hi : i < σ.length := by rw [← k.len]; exact (List.getElem?_eq_some_iff.mp e).1
  have hσ : (σ.set i (some v))[i]? = some (some v) := List.getElem?_set_self hi
  refine ⟨k.sub, k.old, k.ext, k.new, by rw [List.length_set, List.length_set]; exact k.len, fun j t ej => ?_, fun j l t t' a ej el h1 h2 q1 q2 => ?_, fun p hp => ?_, fun p hp => ?_⟩
  · rcases set_get ej with ⟨rfl, _, rfl⟩ | ⟨hj, ej'⟩
    · rw [hσ]; exact z
    · rw [List.getElem?_set_ne (Ne.symm hj)]; exact k.slot j t ej'
  · rcases set_get ej with ⟨rfl, _, rfl⟩ | ⟨hj, ej'⟩
    · rcases set_get el with ⟨rfl, _, rfl⟩ | ⟨hl, el'⟩
      · rfl
      · rw [hσ] at q1
        cases q1
        rw [List.getElem?_set_ne (Ne.symm hl)] at q2
        exact absurd q2 ((ap h1 a rfl).1 l t' el' h2)
    · rcases set_get el with ⟨rfl, _, rfl⟩ | ⟨hl, el'⟩
      · rw [hσ] at q2
        cases q2
        rw [List.getElem?_set_ne (Ne.symm hj)] at q1
        exact absurd q1 ((ap h2 a rfl).1 j t ej' h1)
      · rw [List.getElem?_set_ne (Ne.symm hj)] at q1
        rw [List.getElem?_set_ne (Ne.symm hl)] at q2
        exact k.sep j l t t' a ej' el' h1 h2 q1 q2
  · obtain ⟨e1, d, e2⟩ := k.bor p hp
    have hne : p.1 ≠ i := fun w => by
      rw [w, e] at e2; cases e2; cases hb
    exact ⟨by rw [List.getElem?_set_ne (Ne.symm hne)]; exact e1, d, by rw [List.getElem?_set_ne (Ne.symm hne)]; exact e2⟩
  · obtain ⟨h1, h2, h3⟩ := k.prot p hp
    refine ⟨h1, h2, fun j t ej hs w => ?_⟩
    rcases set_get ej with ⟨rfl, _, rfl⟩ | ⟨hj, ej'⟩
    · rw [hσ] at w
      cases w
      exact (ap hs _ rfl).2 p hp rfl
    · rw [List.getElem?_set_ne (Ne.symm hj)] at w
      exact h3 j t ej' hs w
theorem setFz_ok {ρ ρ' : Env} {F H : Hp} {σ : St} (k : Ok b ρ F H σ) {i : Nat} {d : D} {v : V} (r : Rep b.K b.mg F d v) (h : setFz i d ρ = .ok () ρ') : Ok b ρ' F H (σ.set i (some v)) := by
  unfold setFz at h
  cases e : ρ[i]? with
  | none => rw [e] at h; cases h
  | some s =>
    rw [e] at h
    have h : (if isBo s then R.no else .ok () (ρ.set i (.fz d))) = .ok () ρ' := h
    cases hb : isBo s with
    | true => rw [hb] at h; cases h
    | false =>
      rw [hb] at h; cases h
      exact k.setSlot e hb rfl ⟨v, rfl, r⟩ fun q => by cases q
theorem Then.setFz {ρ : Env} {F H : Hp} {σ : St} (k : Ok b ρ F H σ) {i : Nat} {d : D} {v : V} (r : Rep b.K b.mg F d v) {f : M Ctl} {D : Ends} (h : Then b W F ((DL.setFz i d).bnd (fun _ => f) ρ) D) : ∃ ρ', Ok b ρ' F H (σ.set i (some v)) ∧ Then b W F (f ρ') D := by
  unfold M.bnd at h
  cases e : DL.setFz i d ρ with
  | no => rw [e] at h; exact h.elim
  | ex x ρ' =>
    unfold DL.setFz at e
    split at e
    · split at e <;> cases e
    · cases e
  | ok u ρ' =>
    rw [e] at h
    exact ⟨ρ', setFz_ok k r e, h⟩
theorem Then.asg {ρ : Env} {F H : Hp} {σ : St} (k : Ok b ρ F H σ) {i : Nat} {av : AV} {v : V} (r : RepA b F H σ ρ av v) {f : M Ctl} {D : Ends} (h : Then b W F ((asg i av).bnd (fun _ => f) ρ) D) :
    ∃ ρ' F', Ok b ρ' F' H (σ.set i (some v)) ∧ Same F F' ∧ Then b W F' (f ρ') D := by
  cases av with
  | fz d =>
    obtain ⟨ρ', k', h'⟩ := Then.setFz k r h
    exact ⟨ρ', F, k', Same.refl _, h'⟩
  | sl j =>
    have h : Then b W F (((frz (.sl j)).bnd fun d => DL.setFz i d).bnd (fun _ => f) ρ) D := h
    rw [M.bnd_assoc] at h
    obtain ⟨d, ρ2, F2, k2, s2, q2, h2⟩ := Then.froze k r h
    obtain ⟨ρ', k', h'⟩ := Then.setFz k2 q2 h2
    exact ⟨ρ', F2, k', s2, h'⟩
  | ow d =>
    unfold M.bnd at h
    cases e : ρ[i]? with
    | none =>
      dsimp only [DL.asg] at h
      rw [e] at h
      exact h.elim
    | some s =>
      dsimp only [DL.asg] at h
      rw [e] at h
      cases hb : isBo s with
      | true =>
        simp only [hb] at h
        exact h.elim
      | false =>
        simp only [hb] at h
        obtain ⟨a, rfl, n, n0, oa, ap⟩ := r
        refine ⟨_, F, k.setSlot (s' := .ow d) e hb rfl ⟨a, rfl, n, n0, oa⟩ (fun _ c ec => ?_), Same.refl _, h⟩
        cases ec
        exact ap
def mAsg (i : Nat) (φ : M AV) : M Ctl := φ.bnd fun av => (asg i av).bnd fun _ => M.ret .nx
theorem ds_set {i : Nat} {x : Str} {e : Expr} {φ : M AV} {pos' : Pos} (hN : X.N.Nodup) (hi : X.N[i]? = some x) (hx : Loc X.env.scope x) (he : PE X e (tE b W φ)) (hs : swapsWith e (some (.Name x pos')) pos.line X.env = pure false := by rfl)
    (hf : X.fn x = true ∨ X.env.scope.names.lookup x = some .local := by first | exact .inl rfl | exact .inr rfl | assumption) : PS X (.Assign [.Name x pos'] e pos) (tS b W (mAsg i φ)) := by
  refine weakS (ps_set hN hi hx he hs hf) fun D σ H ⟨F, ρ, k, h⟩ => ?_
  refine runSE k h fun av v ρ1 F1 H1 k1 s1 r1 h1 => ?_
  obtain ⟨ρ2, F2, k2, s2, h2⟩ := Then.asg k1 r1 h1
  exact h2 _ F2 H1 k2 (Same.refl _)

/-! ### targets -/
/-- a target: names, tuples of targets -/
inductive Tg where
  | nm (i : Nat) | tp (l : List Tg)
mutual
def bindT : Tg → D → M Unit
  | .nm i, d => setFz i d
  | .tp l, d => match d with
    | .tup ds => bindTs l ds
    | _ => M.stuck
def bindTs : List Tg → List D → M Unit
  | [], [] => M.ret ()
  | t :: ts, d :: ds => (bindT t d).bnd fun _ => bindTs ts ds
  | _, _ => M.stuck
end
mutual
def Tg.slots : Tg → List Nat
  | .nm i => [i]
  | .tp l => Tg.slotsL l
def Tg.slotsL : List Tg → List Nat
  | [] => []
  | t :: ts => t.slots ++ Tg.slotsL ts
end
def Out (l : List Nat) (σ σ' : St) : Prop := σ'.length = σ.length ∧ ∀ j, j ∉ l → σ'[j]? = σ[j]?
/-- what a target's store does, for data -/
def tGd (b : Bs) (t : Tg) : TG := fun v σ H Q => ∃ F ρ d, Ok b ρ F H σ ∧ Rep b.K b.mg F d v ∧ match bindT t d ρ with
  | .ok _ ρ' => ∀ σ', Ok b ρ' F H σ' → Out t.slots σ σ' → Q σ' H
  | _ => False
def tGds (b : Bs) (t : List Tg) : TGs := fun vs σ H Q => ∃ F ρ ds, Ok b ρ F H σ ∧ RepL b.K b.mg F ds vs ∧ match bindTs t ds ρ with
  | .ok _ ρ' => ∀ σ', Ok b ρ' F H σ' → Out (Tg.slotsL t) σ σ' → Q σ' H
  | _ => False
theorem weakG {e : Expr} {t t' : TG} (h : PG X e t) (i : ∀ v σ H Q, t' v σ H Q → t v σ H Q) : PG X e t' := ⟨fun pins s σ H v u Q I r q => h.run pins s σ H v u Q I r (i _ _ _ _ q)⟩
theorem weakGs {e : List Expr} {t t' : TGs} (h : PGs X e t) (i : ∀ v σ H Q, t' v σ H Q → t v σ H Q) : PGs X e t' := ⟨fun pins s σ H v u Q I r q => h.run pins s σ H v u Q I r (i _ _ _ _ q)⟩
theorem dg_name {i : Nat} {x : Str} (hN : X.N.Nodup) (hi : X.N[i]? = some x) (hx : Loc X.env.scope x) (hf : X.fn x = true ∨ X.env.scope.names.lookup x = some .local := by first | exact .inl rfl | exact .inr rfl | assumption) : PG X (.Name x pos) (tGd b (.nm i)) := by
  refine weakG (pg_name hN hi hx hf) fun v σ H Q ⟨F, ρ, d, k, r, h⟩ => ?_
  have h : match setFz i d ρ with
    | .ok _ ρ' => ∀ σ', Ok b ρ' F H σ' → Out [i] σ σ' → Q σ' H
    | _ => False := by
      unfold bindT Tg.slots at h; exact h
  cases e : setFz i d ρ with
  | no => rw [e] at h; exact h.elim
  | ex x ρ' => rw [e] at h; exact h.elim
  | ok u ρ' =>
    rw [e] at h
    exact h _ (setFz_ok k r e) ⟨List.length_set, fun j hj => List.getElem?_set_ne fun q => hj (by rw [q]; exact List.mem_singleton.mpr rfl)⟩
theorem dgs_nil : PGs X [] (tGds b []) := by
  refine weakGs pgs_nil fun v σ H Q ⟨F, ρ, ds, k, r, h⟩ => ?_
  cases ds with
  | nil =>
    unfold RepL at r
    unfold bindTs at h
    exact ⟨r, h σ k ⟨rfl, fun _ _ => rfl⟩⟩
  | cons d ds => unfold bindTs at h; exact h.elim
theorem dgs_cons {e : Expr} {es : List Expr} {t : Tg} {ts : List Tg} (h1 : PG X e (tGd b t)) (h2 : PGs X es (tGds b ts)) (hs : (assignEach (e :: es) X.env).map (·.2) = assign e X.env :: (assignEach es X.env).map (·.2) := by rfl) : PGs X (e :: es) (tGds b (t :: ts)) := by
  refine weakGs (pgs_cons h1 h2 hs) fun v σ H Q ⟨F, ρ, ds, k, r, h⟩ => ?_
  cases ds with
  | nil => unfold bindTs at h; exact h.elim
  | cons d ds =>
    unfold RepL at r
    obtain ⟨v, vs, rfl, q1, q2⟩ := r
    refine ⟨v, vs, rfl, F, ρ, d, k, q1, ?_⟩
    unfold bindTs M.bnd at h
    cases e : bindT t d ρ with
    | no => rw [e] at h; exact h.elim
    | ex x ρ' => rw [e] at h; exact h.elim
    | ok u ρ' =>
      rw [e] at h
      refine fun σ' k' o1 => ⟨F, ρ', ds, k', q2, ?_⟩
      have h : match bindTs ts ds ρ' with
        | .ok _ ρ' => ∀ σ'', Ok b ρ' F H σ'' → Out (Tg.slotsL (t :: ts)) σ σ'' → Q σ'' H
        | _ => False := h
      cases e2 : bindTs ts ds ρ' with
      | no => rw [e2] at h; exact h.elim
      | ex x ρ2 => rw [e2] at h; exact h.elim
      | ok u ρ2 =>
        rw [e2] at h
        refine fun σ'' k'' o2 => h σ'' k'' ⟨o2.1.trans o1.1, fun j hj => ?_⟩
        have hj' : j ∉ t.slots ++ Tg.slotsL ts := hj
        rw [List.mem_append, not_or] at hj'
        rw [o2.2 j hj'.2, o1.2 j hj'.1]
theorem dg_tup {es : List Expr} {j : Nat} {ts : List Tg} (hl : ts.length = es.length) (fit : Fit X b) (hc : X.calm = true) (h : PGs X es (tGds b ts)) (hn : (assignEach es X.env).length = ts.length := by rfl) (hst : (assignEach es X.env).findIdx? (·.1) = none := by rfl) :
    PG X (.Tuple es j pos) (tGd b (.tp ts)) := by
  refine weakG (pg_tup hc h hn hst) fun v σ H Q ⟨F, ρ, d, k, r, h⟩ => ?_
  unfold bindT Tg.slots at h
  cases d with
  | tup ds =>
    unfold Rep at r
    obtain ⟨a, xs, rfl, q, l⟩ := r
    have hlen : ∀ {ts : List Tg} {ds : List D} {ρ : Env}, (match bindTs ts ds ρ with | .ok _ _ => True | _ => False) → ds.length = ts.length := by
      intro ts
      induction ts with
      | nil =>
        intro ds ρ h
        cases ds with
        | nil => rfl
        | cons d ds => unfold bindTs at h; exact h.elim
      | cons t ts ih =>
        intro ds ρ h
        cases ds with
        | nil => unfold bindTs at h; exact h.elim
        | cons d ds =>
          unfold bindTs M.bnd at h
          cases e : bindT t d ρ with
          | no => rw [e] at h; exact h.elim
          | ex x ρ' => rw [e] at h; exact h.elim
          | ok u ρ' =>
            rw [e] at h
            rw [List.length_cons, List.length_cons, ih h]
    refine ⟨a, xs, rfl, ?_, ?_, F, ρ, ds, k, l, h⟩
    · rw [← fit.K]
      rcases q with (q | ⟨o, q⟩) | q
      · rcases k.sub _ _ q with z | ⟨_, _, z, _⟩
        · exact .inl (.inl z)
        · cases z
      · rcases k.sub _ _ q with z | ⟨_, _, z, _⟩
        · exact .inl (.inr ⟨o, z⟩)
        · cases z
      · exact .inr q
    · rw [← l.len]
      refine hlen (ρ := ρ) ?_
      have h : match bindTs ts ds ρ with
        | .ok _ ρ' => ∀ σ', Ok b ρ' F H σ' → Out (Tg.slotsL ts) σ σ' → Q σ' H
        | _ => False := h
      cases e : bindTs ts ds ρ with
      | no => rw [e] at h; exact h.elim
      | ex x ρ' => rw [e] at h; exact h.elim
      | ok u ρ' => trivial
  | _ => exact h.elim
mutual
theorem bindT_noex : ∀ (t : Tg) (d : D) (ρ : Env), (∃ e ρ', bindT t d ρ = .ex e ρ') → False
  | .nm i, d, ρ, ⟨e, ρ', h⟩ => by
    unfold bindT setFz at h
    split at h
    · split at h <;> cases h
    · cases h
  | .tp l, d, ρ, ⟨e, ρ', h⟩ => by
    unfold bindT at h
    cases d with
    | tup ds => exact bindTs_noex l ds ρ ⟨e, ρ', h⟩
    | _ => cases h
theorem bindTs_noex : ∀ (t : List Tg) (d : List D) (ρ : Env), (∃ e ρ', bindTs t d ρ = .ex e ρ') → False
  | [], [], ρ, ⟨e, ρ', h⟩ => by unfold bindTs at h; cases h
  | [], _ :: _, ρ, ⟨e, ρ', h⟩ => by unfold bindTs at h; cases h
  | _ :: _, [], ρ, ⟨e, ρ', h⟩ => by unfold bindTs at h; cases h
  | t :: ts, d :: ds, ρ, ⟨e, ρ', h⟩ => by
    unfold bindTs M.bnd at h
    cases e1 : bindT t d ρ with
    | no => rw [e1] at h; cases h
    | ex x ρ2 => exact bindT_noex t d ρ ⟨x, ρ2, e1⟩
    | ok u ρ2 =>
      rw [e1] at h
      exact bindTs_noex ts ds ρ2 ⟨e, ρ', h⟩
end
/-- target = value, the value frozen -/
def mAsgT (t : Tg) (φ : M AV) : M Ctl := φ.bnd fun av => (frz av).bnd fun d => (bindT t d).bnd fun _ => M.ret .nx
theorem ds_asg {tg e : Expr} {φ : M AV} {t : Tg} (he : PE X e (tE b W φ)) (hg : PG X tg (tGd b t)) (hs : swapsWithSole [tg] e pos.line X.env = pure false := by rfl) (hw : swappedStores [tg] e X.env = pure none := by rfl)
    (h1 : (assignEach [tg] X.env).map (·.2) = [assign tg X.env] := by rfl) : PS X (.Assign [tg] e pos) (tS b W (mAsgT t φ)) := by
  refine weakS (ps_asg he hg hs hw h1) fun D σ H ⟨F, ρ, k, h⟩ => ?_
  refine runSE k h fun av v ρ1 F1 H1 k1 s1 r1 h1 => ?_
  obtain ⟨d, ρ2, F2, k2, s2, q2, h2⟩ := Then.froze k1 r1 h1
  refine ⟨F2, ρ2, d, k2, q2, ?_⟩
  unfold M.bnd at h2
  cases e : bindT t d ρ2 with
  | no => rw [e] at h2; exact h2.elim
  | ex x ρ' => exact (bindT_noex t d ρ2 ⟨x, ρ', e⟩).elim
  | ok u ρ' =>
    rw [e] at h2
    exact fun σ' k' _ => h2 σ' F2 H1 k' (Same.refl _)
end
end DL

namespace DL
open PySem PySem.Spec L2

/-! ### loops -/
def JOk (b : Bs) (F : Hp) (J : It) (ds : List D) : Prop := ∀ F2 H2, Same F F2 → Sub F2 H2 →
  (∀ (i : Nat) (d : D), ds[i]? = some d → J.go i H2 ∧ ∀ x H', J.yld i H2 x H' → ∃ F3, Grow F2 H2 F3 H' ∧ Rep b.K b.mg F3 d x) ∧ J.stop ds.length H2
def tI (b : Bs) (W : WX) (φ : M (List D)) : TI := fun σ H R => ∃ F ρ, Ok b ρ F H σ ∧ After b W σ F (φ ρ) fun ds ρ' F' H' => ∀ J, JOk b F' J ds → R J H'
def signD (c : Nat) : D := .str ⟨#[c]⟩
def itemsOf : D → M (List D)
  | .lst ds => M.ret ds
  | .tup ds => M.ret ds
  | .str s => M.ret (s.cps.toList.map signD)
  | .scr ns => M.ret (ns.map .int)
  | _ => M.stuck
def mItems (φ : M AV) : M (List D) := φ.bnd fun av => (frz av).bnd itemsOf
def rangeD (lo : Int) (n : Nat) : List D := (List.range n).map fun (k : Nat) => D.int (lo + k)
def range1 : List D → M (List D)
  | [.int j] => if -(2 ^ 62) ≤ j ∧ j < 2 ^ 62 then M.ret (rangeD 0 j.toNat) else M.stuck
  | _ => M.stuck
def range2 : List D → M (List D)
  | [.int i, .int j] => if -(2 ^ 62) ≤ i ∧ i < 2 ^ 62 ∧ -(2 ^ 62) ≤ j ∧ j < 2 ^ 62 then M.ret (rangeD i (j - i).toNat) else M.stuck
  | _ => M.stuck
def mIt (f : List D → M (List D)) (φ : M (List AV)) : M (List D) := φ.bnd fun avs => (rdAll avs).bnd f
/-- enumerate of a list -/
def enumFrom (n : Int) : List D → List D
  | [] => []
  | d :: ds => .tup [.int n, d] :: enumFrom (n + 1) ds
def enum0 : List D → M (List D)
  | [.lst ds] => M.ret (enumFrom 0 ds)
  | _ => M.stuck
def zipD : List D → List D → List D
  | a :: r, c :: s => .tup [a, c] :: zipD r s
  | _, _ => []
def zip2 : List D → M (List D)
  | [.lst ds, .lst es] => M.ret (zipD ds es)
  | _ => M.stuck
def loopF (t : Tg) (body : M Ctl) : List D → M Ctl
  | [] => M.ret .nx
  | d :: ds => (bindT t d).bnd fun _ => fun ρ => match body ρ with
    | .ok .nx ρ' => loopF t body ds ρ'
    | .ok .ct ρ' => loopF t body ds ρ'
    | .ok .bk ρ' => .ok .nx ρ'
    | r => r
def mFor (items : M (List D)) (t : Tg) (body : M Ctl) : M Ctl := items.bnd (loopF t body)
def mWhile (t : M Bool) (body : M Ctl) : Nat → M Ctl
  | 0 => M.stuck
  | n + 1 => t.bnd fun k => if k then (fun ρ => match body ρ with
    | .ok .nx ρ' => mWhile t body n ρ'
    | .ok .ct ρ' => mWhile t body n ρ'
    | .ok .bk ρ' => .ok .nx ρ'
    | r => r) else M.ret .nx

theorem supI {X : Cx} {tg iter : Expr} {wi' : TI} (h : ∀ σ H R, wi' σ H R → ∃ wi, PI X tg iter wi ∧ wi σ H R) : PI X tg iter wi' := ⟨fun pins s σ H R I q => by
  obtain ⟨wi, p, z⟩ := h σ H R q
  exact p.run pins s σ H R I z⟩
theorem supE {X : Cx} {e : Expr} {t' : TE} (h : ∀ σ H Q, t' σ H Q → ∃ t, PE X e t ∧ t σ H Q) : PE X e t' := ⟨fun pins s σ H R I q => by
  obtain ⟨wi, p, z⟩ := h σ H R q
  exact p.run pins s σ H R I z⟩
theorem weakI {X : Cx} {tg iter : Expr} {t t' : TI} (h : PI X tg iter t) (i : ∀ σ H Q, t' σ H Q → t σ H Q) : PI X tg iter t' := ⟨fun pins s σ H Q I q => h.run pins s σ H Q I (i _ _ _ q)⟩
/-- what a frozen list is, in the heap -/
theorem Sub.lst {F H : Hp} (s : Sub F H) {a : Addr} {xs : List V} (h : F a = some (.lst xs)) : H a = some (.lst xs) := by
  rcases s a _ h with z | ⟨_, _, z, _⟩
  · exact z
  · cases z
theorem Sub.ins {F H : Hp} (s : Sub F H) {a C dx : Addr} {xs : List (Str × V)} (h : F a = some (.ins C dx xs)) : H a = some (.ins C dx xs) := by
  rcases s a _ h with z | ⟨_, _, z, _⟩
  · exact z
  · cases z
theorem Sub.dK {F H : Hp} (s : Sub F H) {a : Addr} {xs : List (Key × V)} (h : F a = some (.dK xs)) : Rd H a (.dK xs) := by
  rcases s a _ h with z | ⟨ob, _, z, y⟩
  · exact .inl z
  · exact .inr ⟨ob, y⟩
theorem Sub.sqT {F H : Hp} (s : Sub F H) {K : PySem.W.Frag} {a : Addr} {xs : List V} (h : SqT K F a xs) : SqT K H a xs := by
  rcases h with (q | ⟨o, q⟩) | q
  · rcases s _ _ q with z | ⟨_, _, z, _⟩
    · exact .inl (.inl z)
    · cases z
  · rcases s _ _ q with z | ⟨_, _, z, _⟩
    · exact .inl (.inr ⟨o, z⟩)
    · cases z
  · exact .inr q
theorem Sub.sqL {F H : Hp} (s : Sub F H) {K : PySem.W.Frag} {a : Addr} {xs : List V} (h : SqL K F a xs) : SqL K H a xs := by
  rcases h with (q | ⟨o, q⟩) | q
  · rcases s _ _ q with z | ⟨_, _, z, _⟩
    · exact .inl (.inl z)
    · cases z
  · rcases s _ _ q with z | ⟨_, _, z, _⟩
    · exact .inl (.inr ⟨o, z⟩)
    · cases z
  · exact .inr q
theorem RepL.get {K : PySem.W.Frag} {mg : Str → Option Value} {F : Hp} : ∀ {ds : List D} {vs : List V} {i : Nat} {d : D}, RepL K mg F ds vs → ds[i]? = some d → ∃ v, vs[i]? = some v ∧ Rep K mg F d v
  | [], _, _, _, _, e => by cases e
  | d :: ds, _, 0, _, r, e => by
    unfold RepL at r
    obtain ⟨v, s, rfl, q, _⟩ := r
    cases e
    exact ⟨v, rfl, q⟩
  | d :: ds, _, i + 1, _, r, e => by
    unfold RepL at r
    obtain ⟨v, s, rfl, _, q⟩ := r
    exact RepL.get (i := i) q e
theorem RepL.map {K : PySem.W.Frag} {mg : Str → Option Value} {F : Hp} {α : Type} {f : α → D} {g : α → V} (h : ∀ a, Rep K mg F (f a) (g a)) : ∀ (l : List α), RepL K mg F (l.map f) (l.map g)
  | [] => by unfold RepL; rfl
  | a :: l => by
    show RepL K mg F (f a :: l.map f) (g a :: l.map g)
    unfold RepL
    exact ⟨_, _, rfl, h a, RepL.map h l⟩

section
variable {X : Cx} {b : Bs} {W : WX} {pos : Pos}
theorem jok_list {F : Hp} {a : Addr} {xs : List V} {ds : List D} {K : PySem.W.Frag} (h : SqL K F a xs) (r : RepL b.K b.mg F ds xs) (inj : ∀ H2 F2, Same F F2 → Sub F2 H2 → ∀ ys, SqL K H2 a ys → ys = xs) : JOk b F (Itl K a) ds := by
  intro F2 H2 s2 sb
  have q : SqL K H2 a xs := sb.sqL (s2.seq h)
  refine ⟨fun i d e => ?_, ⟨xs, q, by rw [r.len]; exact Nat.le_refl _⟩⟩
  obtain ⟨v, ev, rv⟩ := r.get e
  refine ⟨⟨xs, v, q, ev⟩, fun x H' y => ?_⟩
  obtain ⟨rfl, y⟩ := y
  have := y xs q
  rw [ev] at this
  cases this
  exact ⟨F2, Grow.refl sb, rv.mono s2⟩
theorem di_seq {tg e : Expr} {φ : M AV} (fit : Fit X b) (he : PE X e (tE b W φ)) (hc : X.calm = true := by rfl) : PI X tg e (tI b W (mItems φ)) := by
  refine supI fun σ H R ⟨F, ρ, k, h⟩ => ?_
  unfold mItems M.bnd at h
  have base : ∀ wi : TI, (∀ σ H R, (∃ F ρ, Ok b ρ F H σ ∧ After b W σ F (φ ρ) fun _ _ _ _ => False) → wi σ H R) → True := fun _ _ => trivial
  have dead : ∀ (hh : After b W σ F (φ ρ) fun _ _ _ _ => False), iList X.K (tE b W φ) σ H R := fun hh =>
    ⟨F, ρ, k, hh.imp fun _ _ _ _ _ _ z => z.elim⟩
  cases e1 : φ ρ with
  | no => rw [e1] at h; exact h.elim
  | ex x ρ' =>
    rw [e1] at h
    exact ⟨_, pi_list he, dead (by rw [e1]; exact h)⟩
  | ok av ρ1 =>
    rw [e1] at h
    have h : After b W σ F (((frz av).bnd itemsOf) ρ1) _ := h
    -- the data
    have run : ∀ {R' : V → Hp → Prop}, (∀ v F1 H1 d ρ2 F2, Ok b ρ2 F2 H1 σ → Same F F2 → Rep b.K b.mg F2 d v → frz av ρ1 = .ok d ρ2 → After b W σ F2 (itemsOf d ρ2) (fun ds ρ' F' H' => ∀ J, JOk b F' J ds → R J H') → R' v H1) → tE b W φ σ H R' := fun {R'} i => by
      refine ⟨F, ρ, k, ?_⟩
      rw [e1]
      intro F1 H1 k1 s1 v r1
      have h1 := h.later s1
      unfold M.bnd at h1
      cases e2 : frz av ρ1 with
      | no => rw [e2] at h1; exact h1.elim
      | ex x ρ2 =>
        cases av with
        | fz d => cases e2
        | ow d => cases e2
        | sl i =>
          dsimp only [frz] at e2
          split at e2 <;> cases e2
      | ok d ρ2 =>
        rw [e2] at h1
        obtain ⟨F2, k2, s2, q2⟩ := k1.froze r1 e2
        exact i v F1 H1 d ρ2 F2 k2 (s1.trans s2) q2 e2 (After.later (show After b W σ F1 (itemsOf d ρ2) _ from h1) s2)
    cases e2 : frz av ρ1 with
    | no =>
      unfold M.bnd at h
      rw [e2] at h; exact h.elim
    | ex x ρ2 =>
      unfold M.bnd at h
      rw [e2] at h
      cases av with
      | fz d => cases e2
      | ow d => cases e2
      | sl i =>
        dsimp only [frz] at e2
        split at e2 <;> cases e2
    | ok d ρ2 =>
      have hd : ∀ {d' ρ'}, frz av ρ1 = .ok d' ρ' → d' = d ∧ ρ' = ρ2 := fun {d' ρ'} z => by
        rw [e2] at z; cases z; exact ⟨rfl, rfl⟩
      cases d with
      | lst ds =>
        refine ⟨_, pi_list he, run fun v F1 H1 d ρ3 F2 k2 s2 q2 e3 h3 => ?_⟩
        obtain ⟨rfl, rfl⟩ := hd e3
        unfold Rep at q2
        obtain ⟨a, xs, rfl, q, l⟩ := q2
        refine ⟨a, rfl, ⟨xs, SqL.of (k2.sub.lst q)⟩, h3 F2 H1 k2 (Same.refl _) _ ?_⟩
        intro F3 H3 s3 sb
        have z : H3 a = some (.lst xs) := sb.lst (s3 _ _ q)
        refine ⟨fun i d e => ?_, ⟨xs, SqL.of z, by rw [l.len]; exact Nat.le_refl _⟩⟩
        obtain ⟨v, ev, rv⟩ := l.get e
        refine ⟨⟨xs, v, SqL.of z, ev⟩, fun x H' y => ?_⟩
        obtain ⟨rfl, y⟩ := y
        have := y xs (SqL.of z)
        rw [ev] at this
        cases this
        exact ⟨F3, Grow.refl sb, rv.mono s3⟩
      | scr ns =>
        refine ⟨_, pi_list he, run fun v F1 H1 d ρ3 F2 k2 s2 q2 e3 h3 => ?_⟩
        obtain ⟨rfl, rfl⟩ := hd e3
        unfold Rep at q2
        obtain ⟨a, rfl, q⟩ := q2
        rw [fit.K] at q
        refine ⟨a, rfl, ⟨_, k2.sub.sqL q⟩, h3 F2 H1 k2 (Same.refl _) _ ?_⟩
        intro F3 H3 s3 sb
        have z : SqL X.K H3 a (ns.map V.int) := sb.sqL (s3.seq q)
        have l : RepL b.K b.mg F3 (ns.map D.int) (ns.map V.int) := RepL.map (fun i => by unfold Rep; rfl) ns
        refine ⟨fun i d e => ?_, ⟨_, z, by rw [l.len]; exact Nat.le_refl _⟩⟩
        obtain ⟨v, ev, rv⟩ := l.get e
        refine ⟨⟨_, v, z, ev⟩, fun x H' y => ?_⟩
        obtain ⟨rfl, y⟩ := y
        have := y _ z
        rw [ev] at this
        cases this
        exact ⟨F3, Grow.refl sb, rv⟩
      | tup ds =>
        refine ⟨_, pi_tup he, run fun v F1 H1 d ρ3 F2 k2 s2 q2 e3 h3 => ?_⟩
        obtain ⟨rfl, rfl⟩ := hd e3
        unfold Rep at q2
        obtain ⟨a, xs, rfl, q, l⟩ := q2
        rw [fit.K] at q
        refine ⟨a, rfl, ⟨xs, k2.sub.sqT q⟩, h3 F2 H1 k2 (Same.refl _) _ ?_⟩
        intro F3 H3 s3 sb
        have z : SqT X.K H3 a xs := sb.sqT (sqT_mono s3 q)
        refine ⟨fun i d e => ?_, ⟨xs, z, by rw [l.len]; exact Nat.le_refl _⟩⟩
        obtain ⟨v, ev, rv⟩ := l.get e
        refine ⟨⟨xs, v, z, ev⟩, fun x H' y => ?_⟩
        obtain ⟨rfl, y⟩ := y
        have := y xs z
        rw [ev] at this
        cases this
        exact ⟨F3, Grow.refl sb, rv.mono s3⟩
      | str s =>
        refine ⟨_, pi_str he, run fun v F1 H1 d ρ3 F2 k2 s2 q2 e3 h3 => ?_⟩
        obtain ⟨rfl, rfl⟩ := hd e3
        unfold Rep at q2
        subst q2
        refine ⟨s, rfl, h3 F2 H1 k2 (Same.refl _) _ ?_⟩
        intro F3 H3 s3 sb
        refine ⟨fun i d e => ?_, ?_⟩
        · rw [List.getElem?_map] at e
          cases e0 : s.cps.toList[i]? with
          | none => rw [e0] at e; cases e
          | some c =>
            rw [e0] at e
            cases e
            have e0' : s.cps[i]? = some c := by simpa using e0
            refine ⟨(Array.getElem?_eq_some_iff.mp e0').1, fun x H' y => ?_⟩
            obtain ⟨rfl, c', ec, rfl⟩ := y
            rw [e0'] at ec
            cases ec
            exact ⟨F3, Grow.refl sb, by show Rep _ _ _ _ _; unfold Rep; rfl⟩
        · show s.cps.size ≤ _
          simp
      | _ =>
        unfold M.bnd at h
        rw [e2] at h
        exact h.elim
/-- read all arguments, whatever comes of it -/
theorem runI {φ : M (List AV)} {f : List D → M (List D)} {σ : St} {H F : Hp} {ρ : Env} {R : It → Hp → Prop} {R' : List V → Hp → Prop} (k : Ok b ρ F H σ) (h : After b W σ F ((φ.bnd fun avs => (rdAll avs).bnd f) ρ) fun ds ρ' F' H' => ∀ J, JOk b F' J ds → R J H')
    (i : ∀ ds vs ρ1 F1 H1, Ok b ρ1 F1 H1 σ → Same F F1 → RdL b F1 H1 ds vs → After b W σ F1 (f ds ρ1) (fun ds ρ' F' H' => ∀ J, JOk b F' J ds → R J H') → R' vs H1) : tAs b W φ σ H R' := by
  refine runA k h fun avs vs ρ1 F1 H1 k1 s1 r1 h1 => ?_
  obtain ⟨ds, q1, h2⟩ := After.readAll k1 r1 h1
  exact i ds vs ρ1 F1 H1 k1 s1 q1 h2
theorem rd_int {F H : Hp} {i : Int} {v : V} (r : Rd1 b F H (.int i) v) : v = .int i := by
  rcases r with r | ⟨a, _, oa⟩
  · unfold Rep at r; exact r
  · exact oa.elim
theorem jok_range {F : Hp} {lo : Int} {n : Nat} : JOk b F (Itr lo n) (rangeD lo n) := by
  intro F2 H2 s2 sb
  refine ⟨fun i d e => ?_, ?_⟩
  · unfold rangeD at e
    rw [List.getElem?_map] at e
    by_cases hi : i < n
    · rw [List.getElem?_range hi] at e
      cases e
      refine ⟨hi, fun x H' y => ?_⟩
      obtain ⟨rfl, rfl⟩ := y
      exact ⟨F2, Grow.refl sb, by show Rep _ _ _ _ _; unfold Rep; rfl⟩
    · rw [List.getElem?_eq_none (by simpa using hi)] at e; cases e
  · show n ≤ (rangeD lo n).length
    unfold rangeD
    simp
theorem di_range1 {tg a : Expr} {φ : M (List AV)} {p : Pos} (hm : X.mg "range" = none) (ha : PA X [a] (tAs b W φ)) (hg : Gl X "range" := by rfl) (hs : starEach [a] X.env = [(false, eval a X.env)] := by rfl) : PI X tg (.Call (.Name "range" p) [a] [] pos) (tI b W (mIt range1 φ)) := by
  refine weakI (pi_range1 hg hm ha hs) fun σ H R ⟨F, ρ, k, h⟩ => ?_
  refine runI k h fun ds vs ρ1 F1 H1 k1 s1 q h1 => ?_
  unfold range1 at h1
  split at h1
  · rename_i j
    cases q with
    | cons q1 q2 =>
      cases q2
      cases rd_int q1
      by_cases hj : -(2 ^ 62) ≤ j ∧ j < 2 ^ 62
      · rw [if_pos hj] at h1
        exact ⟨j, rfl, hj.1, hj.2, h1 F1 H1 k1 (Same.refl _) _ jok_range⟩
      · rw [if_neg hj] at h1; exact h1.elim
  · exact h1.elim
theorem di_range2 {tg a c : Expr} {φ : M (List AV)} {p : Pos} (hm : X.mg "range" = none) (ha : PA X [a, c] (tAs b W φ)) (hg : Gl X "range" := by rfl) (hs : starEach [a, c] X.env = [(false, eval a X.env), (false, eval c X.env)] := by rfl) (hs2 : starEach [c] X.env = [(false, eval c X.env)] := by rfl) : PI X tg (.Call (.Name "range" p) [a, c] [] pos) (tI b W (mIt range2 φ)) := by
  refine weakI (pi_range2 hg hm ha hs hs2) fun σ H R ⟨F, ρ, k, h⟩ => ?_
  refine runI k h fun ds vs ρ1 F1 H1 k1 s1 q h1 => ?_
  unfold range2 at h1
  split at h1
  · rename_i i j
    cases q with
    | cons q1 q2 =>
      cases q2 with
      | cons q2 q3 =>
        cases q3
        cases rd_int q1
        cases rd_int q2
        by_cases hj : -(2 ^ 62) ≤ i ∧ i < 2 ^ 62 ∧ -(2 ^ 62) ≤ j ∧ j < 2 ^ 62
        · rw [if_pos hj] at h1
          exact ⟨i, j, rfl, hj, h1 F1 H1 k1 (Same.refl _) _ jok_range⟩
        · rw [if_neg hj] at h1; exact h1.elim
  · exact h1.elim
/-- a list that is read: it stands while the loop runs, if it is frozen -/
theorem enumFrom_get : ∀ {ds : List D} {n : Int} {i : Nat} {d : D}, (enumFrom n ds)[i]? = some d → ∃ e, ds[i]? = some e ∧ d = .tup [.int (n + i), e]
  | [], _, _, _, h => by unfold enumFrom at h; cases h
  | e :: ds, n, 0, d, h => by
    unfold enumFrom at h
    cases h
    exact ⟨e, rfl, by simp⟩
  | e :: ds, n, i + 1, d, h => by
    unfold enumFrom at h
    obtain ⟨c, h1, h2⟩ := enumFrom_get (i := i) h
    refine ⟨c, h1, ?_⟩
    rw [h2]
    congr 3
    omega
theorem enumFrom_len : ∀ {ds : List D} {n : Int}, (enumFrom n ds).length = ds.length
  | [], _ => rfl
  | e :: ds, n => by unfold enumFrom; rw [List.length_cons, List.length_cons, enumFrom_len]
theorem rep_tup2 {K : PySem.W.Frag} {mg : Str → Option Value} {F : Hp} {p : Addr} {d e : D} {v u : V} (h : F p = some (.tup [v, u])) (h1 : Rep K mg F d v) (h2 : Rep K mg F e u) : Rep K mg F (.tup [d, e]) (.ref p) := by
  unfold Rep
  refine ⟨p, [v, u], rfl, SqT.of h, ?_⟩
  unfold RepL
  refine ⟨v, [u], rfl, h1, ?_⟩
  unfold RepL
  refine ⟨u, [], rfl, h2, ?_⟩
  unfold RepL
  rfl
/-- the arguments are frozen -/
theorem runIf {φ : M (List AV)} {f : List D → M (List D)} {σ : St} {H F : Hp} {ρ : Env} {R : It → Hp → Prop} {R' : List V → Hp → Prop} (k : Ok b ρ F H σ) (h : After b W σ F ((φ.bnd fun avs => (frzAll avs).bnd f) ρ) fun ds ρ' F' H' => ∀ J, JOk b F' J ds → R J H')
    (i : ∀ ds vs ρ1 F1 H1, Ok b ρ1 F1 H1 σ → RepL b.K b.mg F1 ds vs → After b W σ F1 (f ds ρ1) (fun ds ρ' F' H' => ∀ J, JOk b F' J ds → R J H') → R' vs H1) : tAs b W φ σ H R' := by
  refine runA k h fun avs vs ρ1 F1 H1 k1 s1 r1 h1 => ?_
  obtain ⟨ds, ρ2, F2, k2, s2, q2, h2⟩ := After.frozeAll r1 k1 (Same.refl _) h1
  exact i ds vs ρ2 F2 H1 k2 q2 h2
def mItf (f : List D → M (List D)) (φ : M (List AV)) : M (List D) := φ.bnd fun avs => (frzAll avs).bnd f
theorem di_enum {e : Expr} {elts : List Expr} {kk : Nat} {tpos : Pos} {φ : M (List AV)} {p : Pos} (hm : X.mg "enumerate" = none) (ha : PA X [e] (tAs b W φ)) (hg : Gl X "enumerate" := by rfl) (hs : starEach [e] X.env = [(false, eval e X.env)] := by rfl) :
    PI X (.Tuple elts kk tpos) (.Call (.Name "enumerate" p) [e] [] pos) (tI b W (mItf enum0 φ)) := by
  refine weakI (pi_enum hg hm ha hs) fun σ H R ⟨F, ρ, k, h⟩ => ?_
  refine runIf k h fun ds vs ρ1 F1 H1 k1 q h1 => ?_
  unfold enum0 at h1
  split at h1
  · rename_i ds
    unfold RepL at q
    obtain ⟨v, s, rfl, q1, q2⟩ := q
    unfold RepL at q2
    subst q2
    unfold Rep at q1
    obtain ⟨a, xs, rfl, qa, l⟩ := q1
    refine ⟨a, xs, rfl, SqL.of (k1.sub.lst qa), h1 F1 H1 k1 (Same.refl _) _ ?_⟩
    intro F3 H3 s3 sb
    have z : H3 a = some (.lst xs) := sb.lst (s3 _ _ qa)
    refine ⟨fun i d e => ?_, ⟨xs, SqL.of z, by rw [enumFrom_len, l.len]; exact Nat.le_refl _⟩⟩
    obtain ⟨c, ec, rfl⟩ := enumFrom_get e
    obtain ⟨v, ev, rv⟩ := l.get ec
    refine ⟨⟨xs, v, SqL.of z, ev⟩, fun x H' y => ?_⟩
    obtain ⟨T, u, rfl, hT, rfl, y⟩ := y
    have := y xs (SqL.of z)
    rw [ev] at this
    cases this
    have g := Grow.frozen (o := .tup [.int (i : Nat), v]) sb hT
    refine ⟨_, g, rep_tup2 upd_same ?_ (rv.mono (s3.trans g.ext))⟩
    unfold Rep
    rw [Int.zero_add]
  · exact h1.elim
theorem zipD_get : ∀ {ds es : List D} {i : Nat} {d : D}, (zipD ds es)[i]? = some d → ∃ a c, ds[i]? = some a ∧ es[i]? = some c ∧ d = .tup [a, c]
  | [], _, _, _, h => by unfold zipD at h; cases h
  | _ :: _, [], _, _, h => by unfold zipD at h; cases h
  | a :: ds, c :: es, 0, d, h => by
    unfold zipD at h
    cases h
    exact ⟨a, c, rfl, rfl, rfl⟩
  | a :: ds, c :: es, i + 1, d, h => by
    unfold zipD at h
    exact zipD_get (i := i) (ds := ds) (es := es) h
theorem zipD_len : ∀ {ds es : List D}, ds.length ≤ (zipD ds es).length ∨ es.length ≤ (zipD ds es).length
  | [], _ => .inl (Nat.zero_le _)
  | _ :: _, [] => .inr (Nat.zero_le _)
  | a :: ds, c :: es => by
    unfold zipD
    rcases zipD_len (ds := ds) (es := es) with h | h
    · exact .inl (Nat.succ_le_succ h)
    · exact .inr (Nat.succ_le_succ h)
theorem di_zip {e e2 : Expr} {elts : List Expr} {kk : Nat} {tpos : Pos} {φ : M (List AV)} {p : Pos} (hm : X.mg "zip" = none) (ha : PA X [e, e2] (tAs b W φ)) (hg : Gl X "zip" := by rfl) (hs : starEach [e, e2] X.env = (false, eval e X.env) :: starEach [e2] X.env := by rfl) (hpl : (backTo pos (starEach [e2] X.env)).any (·.1) = false := by rfl) :
    PI X (.Tuple elts kk tpos) (.Call (.Name "zip" p) [e, e2] [] pos) (tI b W (mItf zip2 φ)) := by
  refine weakI (pi_zip hg hm ha hs hpl) fun σ H R ⟨F, ρ, k, h⟩ => ?_
  refine runIf k h fun ds vs ρ1 F1 H1 k1 q h1 => ?_
  unfold zip2 at h1
  split at h1
  · rename_i ds es
    unfold RepL at q
    obtain ⟨v, s, rfl, q1, q2⟩ := q
    unfold RepL at q2
    obtain ⟨v2, s, rfl, q2, q3⟩ := q2
    unfold RepL at q3
    subst q3
    unfold Rep at q1 q2
    obtain ⟨a, xs, rfl, qa, l⟩ := q1
    obtain ⟨c, ys, rfl, qc, m⟩ := q2
    refine ⟨a, c, xs, ys, rfl, SqL.of (k1.sub.lst qa), SqL.of (k1.sub.lst qc), h1 F1 H1 k1 (Same.refl _) _ ?_⟩
    intro F3 H3 s3 sb
    have z : H3 a = some (.lst xs) := sb.lst (s3 _ _ qa)
    have z2 : H3 c = some (.lst ys) := sb.lst (s3 _ _ qc)
    refine ⟨fun i d e => ?_, ⟨xs, ys, SqL.of z, SqL.of z2, by rw [← l.len, ← m.len]; exact zipD_len⟩⟩
    obtain ⟨d1, d2, e1, e2, rfl⟩ := zipD_get e
    obtain ⟨v, ev, rv⟩ := l.get e1
    obtain ⟨u, eu, ru⟩ := m.get e2
    refine ⟨⟨xs, ys, v, u, SqL.of z, SqL.of z2, ev, eu⟩, fun x H' y => ?_⟩
    obtain ⟨T, v', u', rfl, hT, rfl, y1, y2⟩ := y
    have h1 := y1 xs (SqL.of z)
    rw [ev] at h1; cases h1
    have h2 := y2 ys (SqL.of z2)
    rw [eu] at h2; cases h2
    have g := Grow.frozen (o := .tup [v, u]) sb hT
    exact ⟨_, g, rep_tup2 upd_same (rv.mono (s3.trans g.ext)) (ru.mono (s3.trans g.ext))⟩
  · exact h1.elim

/-! ### for -/
theorem ds_for {tg iter : Expr} {body : List Stmt} {ιs : M (List D)} {t : Tg} {φ : M Ctl} (hp : PassesOwn (model X.prog X.w) X.A X.env X.xe) (hi : PI X tg iter (tI b W ιs)) (hg : PG X tg (tGd b t)) (hb : PSs X body (tS b W φ)) (hc : X.calm = true := by rfl)
    (hs : ∀ x, foldedSetIterable iter X.env x = pure x := by intro _; rfl) : PS X (.For tg iter body [] pos) (tS b W (mFor ιs t φ)) := by
  refine weakS (ps_for hp hc hi hg hb hs) fun D σ H ⟨F, ρ, k, h⟩ => ?_
  refine ⟨F, ρ, k, ?_⟩
  refine (Then.bnd h).imp fun ds ρ1 F1 H1 k1 s1 ⟨_, h1⟩ J hJ => ?_
  refine ⟨fun i m σ H => m = ds.length - i ∧ i ≤ ds.length ∧ ∃ F2 ρ2, Ok b ρ2 F2 H σ ∧ Same F1 F2 ∧ Then b W F2 (loopF t φ (ds.drop i) ρ2) D, ⟨ds.length, rfl, Nat.zero_le _, F1, ρ1, k1, Same.refl _, h1⟩, ?_⟩
  rintro i m σ2 H2 ⟨rfl, hi, F2, ρ2, k2, s2, h2⟩
  obtain ⟨go, stop⟩ := hJ F2 H2 s2 k2.sub
  by_cases hlt : i < ds.length
  · obtain ⟨g1, g2⟩ := go i ds[i] (List.getElem?_eq_getElem hlt)
    refine .inr ⟨g1, fun σ' H' => ∃ F3 ρ3, Ok b ρ3 F3 H' σ' ∧ Same F2 F3 ∧ Then b W F3 (loopF t φ (ds.drop (i + 1)) ρ3) D, fun σ' H' ⟨F3, ρ3, k3, s3, h3⟩ => ⟨ds.length - (i + 1), by omega, rfl, hlt, F3, ρ3, k3, s2.trans s3, h3⟩, fun x H' y => ?_⟩
    obtain ⟨F3, gr, rx⟩ := g2 x H' y
    have e : ds.drop i = ds[i] :: ds.drop (i + 1) := List.drop_eq_getElem_cons hlt
    rw [e] at h2
    unfold loopF M.bnd at h2
    refine ⟨F3, ρ2, ds[i], k2.grow gr, rx, ?_⟩
    cases eb : bindT t ds[i] ρ2 with
    | no => rw [eb] at h2; exact h2.elim
    | ex x ρ' => exact (bindT_noex _ _ _ ⟨x, ρ', eb⟩).elim
    | ok u ρ3 =>
      rw [eb] at h2
      intro σ' k' _
      refine ⟨F3, ρ3, k', ?_⟩
      have h2 : Then b W F2 (match φ ρ3 with
        | .ok .nx ρ' => loopF t φ (ds.drop (i + 1)) ρ'
        | .ok .ct ρ' => loopF t φ (ds.drop (i + 1)) ρ'
        | .ok .bk ρ' => .ok .nx ρ'
        | r => r) D := h2
      cases ep : φ ρ3 with
      | no => rw [ep] at h2; exact h2.elim
      | ex x ρ' =>
        rw [ep] at h2
        exact fun c dd σ'' F' H' k'' s'' => h2 c dd σ'' F' H' k'' (gr.ext.trans s'')
      | ok c ρ' =>
        rw [ep] at h2
        cases c with
        | nx => exact fun σ'' F' H' k'' s'' => ⟨F', ρ', k'', gr.ext.trans s'', Then.later h2 (gr.ext.trans s'')⟩
        | ct => exact fun σ'' F' H' k'' s'' => ⟨F', ρ', k'', gr.ext.trans s'', Then.later h2 (gr.ext.trans s'')⟩
        | bk => exact fun σ'' F' H' k'' s'' => h2 σ'' F' H' k'' (gr.ext.trans s'')
        | rt av => exact fun v σ'' F' H' k'' s'' => h2 v σ'' F' H' k'' (gr.ext.trans s'')
  · have hi' : i = ds.length := by omega
    subst hi'
    refine .inl ⟨stop, ?_⟩
    rw [List.drop_length] at h2
    exact h2 σ2 F2 H2 k2 (Same.refl _)
/-! ### while -/
theorem ds_while {c : Expr} {body : List Stmt} {τ : M Bool} {φ : M Ctl} (n : Nat) (hp : PassesOwn (model X.prog X.w) X.A X.env X.xe) (hc : PT X c (tT b W τ)) (hb : PSs X body (tS b W φ)) : PS X (.While c body [] pos) (tS b W (mWhile τ φ n)) := by
  refine weakS (ps_while hp hc hb) fun D σ H ⟨F, ρ, k, h⟩ => ?_
  refine ⟨fun m σ H => ∃ F ρ, Ok b ρ F H σ ∧ Then b W F (mWhile τ φ m ρ) D, ⟨n, F, ρ, k, h⟩, fun m σ H ⟨F, ρ, k, h⟩ => ?_⟩
  cases m with
  | zero => exact h.elim
  | succ m =>
    refine runST k h fun cc ρ1 F1 H1 k1 s1 h1 => ?_
    cases cc with
    | false => exact iteF (h1 σ F1 H1 k1 (Same.refl _))
    | true =>
      refine iteT ⟨fun σ H => ∃ F ρ, Ok b ρ F H σ ∧ Then b W F (mWhile τ φ m ρ) D, fun σ' H' z => ⟨m, Nat.lt_succ_self _, z⟩, F1, ρ1, k1, ?_⟩
      have h1 : Then b W F1 (match φ ρ1 with
        | .ok .nx ρ' => mWhile τ φ m ρ'
        | .ok .ct ρ' => mWhile τ φ m ρ'
        | .ok .bk ρ' => .ok .nx ρ'
        | r => r) D := h1
      cases ep : φ ρ1 with
      | no => rw [ep] at h1; exact h1.elim
      | ex x ρ' => rw [ep] at h1; exact h1
      | ok c ρ' =>
        rw [ep] at h1
        cases c with
        | nx => exact fun σ'' F' H' k'' s'' => ⟨F', ρ', k'', Then.later h1 s''⟩
        | ct => exact fun σ'' F' H' k'' s'' => ⟨F', ρ', k'', Then.later h1 s''⟩
        | bk => exact h1
        | rt av => exact h1
end
end DL

namespace DL
open PySem PySem.Spec L2

/-! ### a def's body -/
def bosF : List Sl → Env → List D
  | .bo _ :: ks, s :: ρ => (s.data?).getD .non :: bosF ks ρ
  | _ :: ks, _ :: ρ => bosF ks ρ
  | _, _ => []
def runB (N : Nat) (φ : M Ctl) : Fn := fun ks => match φ (ks ++ List.replicate (N - ks.length) .un) with
  | .ok .nx ρ => .ok false .non (bosF ks ρ)
  | .ok (.rt (.fz d)) ρ => .ok false d (bosF ks ρ)
  | .ok (.rt (.ow d)) ρ => .ok true d (bosF ks ρ)
  | .ok (.rt (.sl i)) ρ => match ρ[i]? with
    | some (.fz d) => .ok false d (bosF ks ρ)
    | some (.ow d) => .ok true d (bosF ks ρ)
    | _ => .no
  | .ex e ρ => .ex e (bosF ks ρ)
  | _ => .no
/-- the borrowed slots at the entry, from place n on -/
def boB : Nat → List Sl → List V → List (Nat × Addr)
  | n, .bo _ :: r, .ref a :: t => (n, a) :: boB (n + 1) r t
  | n, _ :: r, _ :: t => boB (n + 1) r t
  | _, _, _ => []
theorem boB_snd : ∀ {ks : List Sl} {vs : List V} {n : Nat}, (boB n ks vs).map (·.2) = boA ks vs
  | [], _, _ => by unfold boB boA; rfl
  | s :: ks, [], _ => by cases s <;> (unfold boB boA; rfl)
  | s :: ks, v :: vs, n => by
    cases s with
    | bo d =>
      cases v with
      | ref a =>
        show (n, a).2 :: (boB (n + 1) ks vs).map (·.2) = a :: boA ks vs
        rw [boB_snd]
      | _ => exact boB_snd (n := n + 1)
    | _ => exact boB_snd (n := n + 1)
theorem mem_boB : ∀ {ks : List Sl} {vs : List V} {n : Nat} {p : Nat × Addr}, p ∈ boB n ks vs → ∃ k d, p.1 = n + k ∧ ks[k]? = some (.bo d) ∧ vs[k]? = some (.ref p.2)
  | [], _, _, _, h => by unfold boB at h; cases h
  | s :: ks, [], _, _, h => by cases s <;> (unfold boB at h; cases h)
  | s :: ks, v :: vs, n, p, h => by
    have rest : p ∈ boB (n + 1) ks vs → ∃ k d, p.1 = n + k ∧ (s :: ks)[k]? = some (.bo d) ∧ (v :: vs)[k]? = some (.ref p.2) := fun h => by
      obtain ⟨k, d, e1, e2, e3⟩ := mem_boB h
      exact ⟨k + 1, d, by omega, e2, e3⟩
    cases s with
    | bo d =>
      cases v with
      | ref a =>
        have h : p ∈ (n, a) :: boB (n + 1) ks vs := h
        rcases List.mem_cons.mp h with rfl | h
        · exact ⟨0, d, rfl, rfl, rfl⟩
        · exact rest h
      | _ => exact rest h
    | _ => exact rest h
theorem boB_mem : ∀ {ks : List Sl} {vs : List V} {n k : Nat} {d : D} {a : Addr}, ks[k]? = some (.bo d) → vs[k]? = some (.ref a) → (n + k, a) ∈ boB n ks vs
  | [], _, _, _, _, _, h, _ => by cases h
  | s :: ks, [], _, _, _, _, _, h => by cases h
  | s :: ks, v :: vs, n, 0, d, a, h1, h2 => by
    cases h1; cases h2
    show (n + 0, a) ∈ (n, a) :: boB (n + 1) ks vs
    exact List.mem_cons_self
  | s :: ks, v :: vs, n, k + 1, d, a, h1, h2 => by
    have q : (n + 1 + k, a) ∈ boB (n + 1) ks vs := boB_mem (n := n + 1) h1 h2
    rw [show n + (k + 1) = n + 1 + k by omega]
    cases s with
    | bo e =>
      cases v with
      | ref c => exact List.mem_cons_of_mem _ q
      | _ => exact q
    | _ => exact q
theorem boA_mem {ks : List Sl} {vs : List V} {k : Nat} {d : D} {a : Addr} (h1 : ks[k]? = some (.bo d)) (h2 : vs[k]? = some (.ref a)) : a ∈ boA ks vs := by
  rw [← boB_snd (n := 0)]
  exact List.mem_map.mpr ⟨_, boB_mem h1 h2, rfl⟩
theorem boB_inj {ks : List Sl} {vs : List V} (nd : (boA ks vs).Nodup) : ∀ {n : Nat} {i j : Nat} {a : Addr}, (i, a) ∈ boB n ks vs → (j, a) ∈ boB n ks vs → i = j := by
  intro n i j a h1 h2
  have nd' : ((boB n ks vs).map (·.2)).Nodup := by rw [boB_snd]; exact nd
  generalize boB n ks vs = l at *
  induction l with
  | nil => cases h1
  | cons p l ih =>
    rw [List.map_cons, List.nodup_cons] at nd'
    rcases List.mem_cons.mp h1 with e1 | h1
    · rcases List.mem_cons.mp h2 with e2 | h2
      · rw [e1.symm] at e2; cases e2; rfl
      · exact absurd (List.mem_map.mpr ⟨_, h2, by rw [← e1]⟩) nd'.1
    · rcases List.mem_cons.mp h2 with e2 | h2
      · exact absurd (List.mem_map.mpr ⟨_, h1, by rw [← e2]⟩) nd'.1
      · exact ih h1 h2 nd'.2
theorem Args.get {K : PySem.W.Frag} {mg : Str → Option Value} {F H : Hp} {ks : List Sl} {vs : List V} (A : Args K mg F H ks vs) : ∀ {i : Nat} {s : Sl}, ks[i]? = some s → ∃ v, vs[i]? = some v ∧ ArgOk K mg F H s v := by
  induction A with
  | nil => intro i s e; cases e
  | cons h _ ih =>
    intro i s e
    cases i with
    | zero => cases e; exact ⟨_, rfl, h⟩
    | succ i => exact ih e
theorem Args.len {K : PySem.W.Frag} {mg : Str → Option Value} {F H : Hp} {ks : List Sl} {vs : List V} (A : Args K mg F H ks vs) : ks.length = vs.length := by
  induction A with
  | nil => rfl
  | cons _ _ ih => rw [List.length_cons, List.length_cons, ih]
/-- the ground of a call -/
def bsOf (K : PySem.W.Frag) (mg : Str → Option Value) (F H : Hp) (ks : List Sl) (vs : List V) : Bs := ⟨K, mg, H, F, boB 0 ks vs, [], []⟩
theorem start_get {N : List Str} {vs : List V} {i : Nat} {v : V} (h : vs[i]? = some v) : (L2.start N vs)[i]? = some (some v) := by
  unfold L2.start
  have hi := (List.getElem?_eq_some_iff.mp h).1
  rw [List.getElem?_append_left (by simpa using hi), List.getElem?_map, h]
  rfl
theorem ok_start {K : PySem.W.Frag} {mg : Str → Option Value} {F H : Hp} {ks : List Sl} {vs : List V} {N : List Str} (s : Sub F H) (A : Args K mg F H ks vs) (nd : (boA ks vs).Nodup) :
    Ok (bsOf K mg F H ks vs) (ks ++ List.replicate (N.length - ks.length) .un) F H (L2.start N vs) := by
  have un_of : ∀ {i : Nat} {t : Sl}, (ks ++ List.replicate (N.length - ks.length) Sl.un)[i]? = some t → ks[i]? = some t ∨ t = .un := fun {i t} e => by
    by_cases hi : i < ks.length
    · rw [List.getElem?_append_left hi] at e; exact .inl e
    · rw [List.getElem?_append_right (by omega), List.getElem?_replicate] at e
      split at e
      · cases e; exact .inr rfl
      · cases e
  have held_of : ∀ {i : Nat} {t : Sl}, (ks ++ List.replicate (N.length - ks.length) Sl.un)[i]? = some t → t.held = true → ∃ d a, ks[i]? = some (.bo d) ∧ vs[i]? = some (.ref a) ∧ t = .bo d := fun {i t} e hh => by
    rcases un_of e with e | rfl
    · obtain ⟨v, ev, q⟩ := A.get e
      cases t with
      | un => cases hh
      | fz d => cases hh
      | ow d => exact q.elim
      | bo d =>
        obtain ⟨a, rfl, _⟩ := q
        exact ⟨d, a, e, ev, rfl⟩
    · cases hh
  refine ⟨s, fun a o e _ => .inl e, Same.refl _, fun a o e => .inl e, ?_, fun i t e => ?_, fun i j t t' a e1 e2 h1 h2 q1 q2 => ?_, fun p hp => ?_, fun p hp => by cases hp⟩
  · unfold L2.start
    simp only [List.length_append, List.length_replicate, List.length_map, A.len]
  · rcases un_of e with e | rfl
    · obtain ⟨v, ev, q⟩ := A.get e
      rw [start_get ev]
      cases t with
      | un => trivial
      | fz d => exact ⟨v, rfl, q⟩
      | ow d => exact q.elim
      | bo d =>
        obtain ⟨a, rfl, n, oa⟩ := q
        refine ⟨a, rfl, n, ?_, oa⟩
        show a ∈ (boB 0 ks vs).map (·.2)
        rw [boB_snd]
        exact boA_mem e ev
    · trivial
  · obtain ⟨d1, a1, f1, g1, _⟩ := held_of e1 h1
    obtain ⟨d2, a2, f2, g2, _⟩ := held_of e2 h2
    rw [start_get g1] at q1
    rw [start_get g2] at q2
    cases q1; cases q2
    have m1 := boB_mem (n := 0) f1 g1
    have m2 := boB_mem (n := 0) f2 g2
    have := boB_inj nd m1 m2
    omega
  · obtain ⟨k, d, e1, e2, e3⟩ := mem_boB hp
    have e1 : p.1 = k := by omega
    rw [e1]
    refine ⟨start_get e3, d, ?_⟩
    rw [List.getElem?_append_left (List.getElem?_eq_some_iff.mp e2).1]
    exact e2
theorem bosF_nil : ∀ {ks : List Sl}, bosF ks [] = []
  | [] => rfl
  | s :: ks => by cases s <;> rfl
theorem boA_none : ∀ {ks : List Sl} {vs : List V}, (∀ (i : Nat) (d : D), ks[i]? ≠ some (Sl.bo d)) → boA ks vs = []
  | [], _, _ => by unfold boA; rfl
  | s :: ks, [], _ => by cases s <;> (unfold boA; rfl)
  | s :: ks, v :: vs, h => by
    have q : boA ks vs = [] := boA_none fun i d e => h (i + 1) d e
    cases s with
    | bo d => exact absurd rfl (h 0 d)
    | un => exact q
    | fz d => exact q
    | ow d => exact q
theorem boOut_of {b : Bs} {ρ : Env} {F H : Hp} {σ : St} (k : Ok b ρ F H σ) : ∀ {ks : List Sl} {vs : List V} {n : Nat}, (∀ p ∈ boB n ks vs, p ∈ b.B) → ks.length = vs.length → (∀ (i : Nat) (d : D), ks[i]? = some (Sl.bo d) → ∃ a, vs[i]? = some (V.ref a)) → BoOut b.K b.mg F H (boA ks vs) (bosF ks (ρ.drop n))
  | [], _, _, _, _, _ => by
    unfold boA bosF; exact .nil
  | s :: ks, [], _, _, hl, _ => by cases hl
  | s :: ks, v :: vs, n, hb, hl, hr => by
    by_cases hlt : n < ρ.length
    · have ed : ρ.drop n = ρ[n] :: ρ.drop (n + 1) := List.drop_eq_getElem_cons hlt
      have rest : (∀ p ∈ boB (n + 1) ks vs, p ∈ b.B) → BoOut b.K b.mg F H (boA ks vs) (bosF ks (ρ.drop (n + 1))) := fun h => boOut_of k h (by simpa using hl) (fun i d e => hr (i + 1) d e)
      have other : (∀ d, s ≠ .bo d) → BoOut b.K b.mg F H (boA (s :: ks) (v :: vs)) (bosF (s :: ks) (ρ.drop n)) := fun hs => by
        rw [ed]
        cases s with
        | bo d => exact absurd rfl (hs d)
        | un => exact rest fun p hp => hb p hp
        | fz d => exact rest fun p hp => hb p hp
        | ow d => exact rest fun p hp => hb p hp
      cases s with
      | bo d =>
        obtain ⟨a, ea⟩ := hr 0 d rfl
        cases ea
        obtain ⟨e1, d', e2⟩ := k.bor (n, a) (hb (n, a) List.mem_cons_self)
        have z := k.slot n _ e2
        rw [e1] at z
        obtain ⟨c, ec, nn, _, oa⟩ := z
        cases ec
        rw [ed]
        show BoOut b.K b.mg F H (a :: boA ks vs) (((ρ[n]).data?).getD .non :: bosF ks (ρ.drop (n + 1)))
        have e3 : ρ[n] = .bo d' := by
          rw [List.getElem?_eq_getElem hlt] at e2
          exact Option.some.inj e2
        rw [e3]
        exact .cons nn oa (rest fun p hp => hb p (List.mem_cons_of_mem _ hp))
      | un => exact other fun d e => by cases e
      | fz d => exact other fun d e => by cases e
      | ow d => exact other fun d e => by cases e
    · have ed : ρ.drop n = [] := List.drop_eq_nil_of_le (by omega)
      rw [ed, bosF_nil, boA_none fun i d e => ?_]
      · exact .nil
      · obtain ⟨a, ea⟩ := hr i d e
        obtain ⟨e1, d', e2⟩ := k.bor (n + i, a) (hb _ (boB_mem e ea))
        have := (List.getElem?_eq_some_iff.mp e2).1
        omega
theorem fpost_of {K : PySem.W.Frag} {mg : Str → Option Value} {F H F' H' : Hp} {ks : List Sl} {vs : List V} {ρ' : Env} {σ' : St} (A : Args K mg F H ks vs) (k : Ok (bsOf K mg F H ks vs) ρ' F' H' σ') : FPost K mg F H (boA ks vs) (bosF ks ρ') F' H' := by
  refine ⟨k.sub, k.ext, k.new, fun a o e hn => ?_, ?_⟩
  · rcases k.old a o e (by show a ∉ (boB 0 ks vs).map (·.2); rw [boB_snd]; exact hn) with z | ⟨z, _⟩
    · exact z
    · cases z
  · have q := boOut_of (n := 0) k (ks := ks) (vs := vs) (fun p hp => hp) A.len (fun i d e => by
      obtain ⟨v, ev, q⟩ := A.get e
      obtain ⟨a, rfl, _⟩ := q
      exact ⟨a, ev⟩)
    rwa [List.drop_zero] at q
section
variable {P : Program} {w : World} {K : PySem.W.Frag} {mg : Str → Option Value} {base : Heap}
/-- a def's promise from its body, no guard of repr up -/
theorem fnG_of {k : Nat} {f : Addr} {name qual : Str} {params : Arguments} {body : List Stmt} {scope : Scope} {dV kV doc pm cdv ct oc : Value} {an od : Option Addr}
    {osl : Array (Option Value)} {N ps : List Str} {sp : Sp} (lk : K.lookup f = some ⟨oc, od, .func (PySem.W.fnOf name qual params body scope dV kV doc pm an cdv ct), osl⟩) (hcd : PySem.W.codeIn K cdv qual = true) (S : FnScope N ps scope)
    (len : ∀ vs H Q E, sp vs H Q E → vs.length = ps.length)
    (hbody : ∀ (A : Around) (outer : List PySem.Env) (s : Shared) (H : Hp) (vs : List V) (Q : VK) (E : XK), Room k (A.deeper (PyProof.Rows.envOfC qual scope s.heap.objs.size f cdv)) → A.guards = some [] → sp vs H Q E →
      ∃ t, PSs (cxOf (L2.CX P w) P w K mg base N qual scope f cdv A outer s H E) body t ∧ t { nx := fun _ H' => Q .non H', rt := Q } (start N vs) H) :
    FnG P w K mg base (k + 1) f (PySem.W.fnOf name qual params body scope dV kV doc pm an cdv ct) ps sp := by
  refine ⟨len, fun A outer s H args us vs Q E hr hgd e0 hb r hsp => ?_⟩
  have hl := len _ _ _ _ hsp
  have KX : K.In s.heap := e0.mod.kin.keeps fun b o e => (e0.bs b o e).1
  have lim : s.heap.NoLimit := e0.mod.nolimit.keeps fun b o e => (e0.bs b o e).1
  have hkind : ∀ y ∈ ps.zip us, scope.names.lookup y.1 = some .local ∨ (scope.names.lookup y.1 = some .cell ∧ ((cellsFrom (s.heap.objs.size + 1) scope.names []).lookup y.1).isSome = true) := fun ⟨n, v⟩ hy => by
    rcases S.par n (List.of_mem_zip hy).1 with q | q
    · exact .inl q
    · exact .inr ⟨q, PySem.W.cellsFrom_some _ _ _ (.inl q)⟩
  refine codeAny_call_function hr.depth (KX _ _ lk) rfl S.co S.gen rfl (PySem.W.codeRec_of KX hcd) (hb _ _ _ _ ?_)
  refine wpAny_newFunctionEnv_cells S.kind hkind fun env he s1 x => ?_
  subst he
  refine ⟨lim.keeps x.toInCall.keep, codeAny_func ?_⟩
  obtain ⟨t, ht, hq⟩ := hbody A outer s H vs Q E (hr.deeper _) hgd hsp
  have I : L2.Inv (cxOf (L2.CX P w) P w K mg base N qual scope f cdv A outer s H E) [] (start N vs) H s1 := inv_start S hr.hd e0 hl r x
  refine wpAny_mono (ht.run [] s1 (start N vs) H _ I hq) (fun fl s' hs => ?_) fun e s' hs => hs
  cases fl with
  | ret u =>
    obtain ⟨v, σ', H', J, rv, q⟩ := hs
    exact ⟨v, H', J.os, J.bare, J.base, J.hok, rv, q⟩
  | next =>
    obtain ⟨σ', H', J, q⟩ := hs
    exact ⟨V.non, H', J.os, J.bare, J.base, J.hok, rfl, q⟩
  | brk =>
    obtain ⟨_, _, _, q⟩ := hs
    exact False.elim q
  | cont =>
    obtain ⟨_, _, _, q⟩ := hs
    exact False.elim q
/-- what a def's body may lean on -/
structure Bd (X : Cx) (W : WX) (k : Nat) : Prop where
  tk : Takes X W
  hp : PassesOwn (model X.prog X.w) X.A X.env X.xe
  room : Room k X.A
  gd : X.A.guards = some []
theorem body_run {N : List Str} {F0 H : Hp} {ks : List Sl} {vs : List V} {φ : M Ctl} {Q : VK} {E : XK} (sb : Sub F0 H) (AA : Args K mg F0 H ks vs) (nd : (boA ks vs).Nodup) (h : match runB N.length φ ks with
  | .ok own d bs => ∀ v F' H', FPost K mg F0 H (boA ks vs) bs F' H' → RetOk K mg H F' H' own d v → Q v H'
  | .ex e bs => ∀ c dd F' H', FPost K mg F0 H (boA ks vs) bs F' H' → ExR' K mg F' e c dd → E c dd H'
  | .no => False) : tS (bsOf K mg F0 H ks vs) (fun c d _ H => E c d H) φ { nx := fun _ H' => Q .non H', rt := Q } (start N vs) H := by
  have k0 := ok_start (N := N) sb AA nd
  refine ⟨F0, _, k0, ?_⟩
  unfold runB at h
  cases e : φ (ks ++ List.replicate (N.length - ks.length) .un) with
  | no => rw [e] at h; exact h.elim
  | ex x ρ' =>
    rw [e] at h
    exact fun c dd σ' F' H' k s q => h c dd F' H' (fpost_of AA k) q
  | ok c ρ' =>
    rw [e] at h
    cases c with
    | nx => exact fun σ' F' H' k s => h .non F' H' (fpost_of AA k) (by show Rep _ _ _ _ _; unfold Rep; rfl)
    | bk => exact h.elim
    | ct => exact h.elim
    | rt av =>
      intro v σ' F' H' k s r
      cases av with
      | fz d => exact h v F' H' (fpost_of AA k) r
      | ow d =>
        obtain ⟨a, ea, n, n0, oa, _⟩ := r
        exact h v F' H' (fpost_of AA k) ⟨a, ea, n, n0, oa⟩
      | sl i =>
        have r : σ'[i]? = some (some v) := r
        cases ei : ρ'[i]? with
        | none => simp only [ei] at h
        | some t =>
          have z := k.slot i t ei
          rw [r] at z
          simp only [ei] at h
          cases t with
          | un => exact h.elim
          | bo d => exact h.elim
          | fz d =>
            obtain ⟨u, eu, ru⟩ := z
            cases eu
            exact h v F' H' (fpost_of AA k) ru
          | ow d =>
            obtain ⟨a, ea, n, n0, oa⟩ := z
            cases ea
            exact h _ F' H' (fpost_of AA k) ⟨a, rfl, n, n0, oa⟩
theorem fn_D {x qual : Str} {st : Stmt} {f : Addr} {fd : FuncData} {N ps : List Str} {k : Nat} {φ : M Ctl} (F : Fun K x qual st f fd) (S : FnScope N ps (defScope st))
    (hbody : ∀ (cdv : Value) (A : Around) (outer : List PySem.Env) (s : Shared) (H : Hp) (E : XK) (b : Bs), Fit (cxOf (L2.CX P w) P w K mg base N qual (defScope st) f cdv A outer s H E) b →
      Bd (cxOf (L2.CX P w) P w K mg base N qual (defScope st) f cdv A outer s H E) (fun c d _ H => E c d H) k →
      PSs (cxOf (L2.CX P w) P w K mg base N qual (defScope st) f cdv A outer s H E) (defBody st) (tS b (fun c d _ H => E c d H) φ)) : FnG P w K mg base (k + 1) f fd ps (spD K mg ps.length (runB N.length φ)) := by
  obtain ⟨oc, od, kV, doc, pm, an, cdv, ct, osl, rfl, lk, hcd⟩ := F.ex
  refine fnG_of lk hcd S (fun vs H Q E h => h.1) fun A outer s H vs Q E hr hgd h => ?_
  obtain ⟨hl, F0, ks, sb, AA, nd, h⟩ := h
  refine ⟨_, hbody cdv A outer s H E (bsOf K mg F0 H ks vs) ⟨rfl, rfl⟩ ⟨takes_of rfl rfl rfl rfl, passes_of rfl, hr, hgd⟩, body_run sb AA nd h⟩
end
end DL

namespace DL
open PySem PySem.Spec L2

/-! ### list comprehensions -/
def wipeE : List Nat → Env → Option Env
  | [], ρ => some ρ
  | i :: is, ρ => match wipeE is ρ with
    | some ρ' => match ρ'[i]? with
      | some (.bo _) => none
      | some _ => some (ρ'.set i .un)
      | none => none
    | none => none
/-- behind the block: what was frozen in its own names' slots is there again -/
def restE : List Nat → Env → Env → Env
  | [], _, ρ => ρ
  | i :: is, ρ0, ρ => (restE is ρ0 ρ).set i (match ρ0[i]? with
    | some (.fz d) => .fz d
    | _ => .un)
def wipeM (own : List Nat) : M Unit := fun ρ => match wipeE own ρ with
  | some ρ' => .ok () ρ'
  | none => .no
def loopC (own : List Nat) (t : Tg) (τ : M Bool) (φ : M AV) : List D → List D → M (List D)
  | [], acc => M.ret acc
  | d :: ds, acc => (bindT t d).bnd fun _ => τ.bnd fun k => if k then φ.bnd fun av => (frz av).bnd fun x => if acc.length < sizeLine then (wipeM own).bnd fun _ => loopC own t τ φ ds (acc ++ [x]) else M.stuck
    else (wipeM own).bnd fun _ => loopC own t τ φ ds acc
theorem bnd_inv {α β : Type} {m : M α} {f : α → M β} {ρ ρ' : Env} {x : β} (h : m.bnd f ρ = .ok x ρ') : ∃ a ρ1, m ρ = .ok a ρ1 ∧ f a ρ1 = .ok x ρ' := by
  unfold M.bnd at h
  cases e : m ρ with
  | no => rw [e] at h; cases h
  | ex y ρ1 => rw [e] at h; cases h
  | ok a ρ1 => rw [e] at h; exact ⟨a, ρ1, rfl, h⟩
theorem wipeM_inv {own : List Nat} {ρ ρ' : Env} {u : Unit} (h : wipeM own ρ = .ok u ρ') : wipeE own ρ = some ρ' := by
  unfold wipeM at h
  cases e : wipeE own ρ with
  | none => rw [e] at h; cases h
  | some ρ1 => rw [e] at h; cases h; rfl
def mComp (ιs : M (List D)) (own : List Nat) (t : Tg) (τ : M Bool) (φ : M AV) : M AV := ιs.bnd fun ds => fun ρ0 => match wipeE own ρ0 with
  | some ρ1 => match loopC own t τ φ ds [] ρ1 with
    | .ok acc ρ2 => .ok (.ow (.lst acc)) (restE own ρ0 ρ2)
    | _ => .no
  | none => .no
def W0 : WX := fun _ _ _ _ => False
theorem wipeE_len : ∀ {is : List Nat} {ρ ρ' : Env}, wipeE is ρ = some ρ' → ρ'.length = ρ.length
  | [], _, _, h => by cases h; rfl
  | i :: is, ρ, ρ', h => by
    unfold wipeE at h
    cases e : wipeE is ρ with
    | none => rw [e] at h; cases h
    | some ρ1 =>
      rw [e] at h
      dsimp only at h
      split at h
      · cases h
      · cases h; rw [List.length_set]; exact wipeE_len e
      · cases h
theorem wipeE_get : ∀ {is : List Nat} {ρ ρ' : Env} {j : Nat} {s : Sl}, wipeE is ρ = some ρ' → ρ'[j]? = some s → (j ∈ is ∧ s = .un ∧ ∃ t, ρ[j]? = some t ∧ isBo t = false) ∨ (j ∉ is ∧ ρ[j]? = some s)
  | [], _, _, _, _, h, e => by cases h; exact .inr ⟨by simp, e⟩
  | i :: is, ρ, ρ', j, s, h, e => by
    unfold wipeE at h
    cases e1 : wipeE is ρ with
    | none => rw [e1] at h; cases h
    | some ρ1 =>
      rw [e1] at h
      dsimp only at h
      split at h
      · cases h
      · rename_i t hbo ht
        cases h
        rcases set_get e with ⟨rfl, _, rfl⟩ | ⟨hj, e'⟩
        · rcases wipeE_get e1 ht with ⟨m, rfl, z⟩ | ⟨_, z⟩
          · exact .inl ⟨List.mem_cons_self, rfl, z⟩
          · refine .inl ⟨List.mem_cons_self, rfl, t, z, ?_⟩
            cases t with
            | bo d => exact (hbo d rfl).elim
            | _ => rfl
        · rcases wipeE_get e1 e' with ⟨m, rfl, z⟩ | ⟨m, z⟩
          · exact .inl ⟨List.mem_cons_of_mem _ m, rfl, z⟩
          · exact .inr ⟨by simp only [List.mem_cons, not_or]; exact ⟨hj, m⟩, z⟩
      · cases h
theorem wipeE_out {is : List Nat} {ρ ρ' : Env} {j : Nat} (h : wipeE is ρ = some ρ') (hj : j ∉ is) : ρ'[j]? = ρ[j]? := by
  cases e : ρ'[j]? with
  | none =>
    have l := wipeE_len h
    have := List.getElem?_eq_none_iff.mp e
    exact (List.getElem?_eq_none_iff.mpr (by omega)).symm
  | some s =>
    rcases wipeE_get h e with ⟨m, _⟩ | ⟨_, z⟩
    · exact absurd m hj
    · exact z.symm
theorem restE_len : ∀ {is : List Nat} {ρ0 ρ : Env}, (restE is ρ0 ρ).length = ρ.length
  | [], _, _ => rfl
  | i :: is, ρ0, ρ => by unfold restE; rw [List.length_set, restE_len]
theorem restE_get : ∀ {is : List Nat} {ρ0 ρ : Env} {j : Nat} {s : Sl}, (restE is ρ0 ρ)[j]? = some s → (j ∈ is ∧ (s = .un ∨ ∃ d, s = .fz d ∧ ρ0[j]? = some (.fz d))) ∨ (j ∉ is ∧ ρ[j]? = some s)
  | [], _, _, _, _, h => .inr ⟨by simp, h⟩
  | i :: is, ρ0, ρ, j, s, h => by
    unfold restE at h
    rcases set_get h with ⟨rfl, _, rfl⟩ | ⟨hj, h'⟩
    · refine .inl ⟨List.mem_cons_self, ?_⟩
      split
      · rename_i d e
        exact .inr ⟨d, rfl, e⟩
      · exact .inl rfl
    · rcases restE_get h' with ⟨m, z⟩ | ⟨m, z⟩
      · exact .inl ⟨List.mem_cons_of_mem _ m, z⟩
      · exact .inr ⟨by simp only [List.mem_cons, not_or]; exact ⟨hj, m⟩, z⟩
theorem restE_out {is : List Nat} {ρ0 ρ : Env} {j : Nat} (hj : j ∉ is) : (restE is ρ0 ρ)[j]? = ρ[j]? := by
  cases e : (restE is ρ0 ρ)[j]? with
  | none =>
    have l := restE_len (is := is) (ρ0 := ρ0) (ρ := ρ)
    have := List.getElem?_eq_none_iff.mp e
    exact (List.getElem?_eq_none_iff.mpr (by omega)).symm
  | some s =>
    rcases restE_get e with ⟨m, _⟩ | ⟨_, z⟩
    · exact absurd m hj
    · exact z.symm
section
variable {b : Bs} {ρ ρ' : Env} {F H : Hp} {σ σ' : St}
/-- the same objects, other slots -/
theorem Ok.re (k : Ok b ρ F H σ) (hl : ρ'.length = σ'.length) (h : ∀ (i : Nat) (s : Sl), ρ'[i]? = some s → (ρ[i]? = some s ∧ σ'[i]? = σ[i]?) ∨ s = .un ∨ ∃ d v, s = .fz d ∧ σ'[i]? = some (some v) ∧ Rep b.K b.mg F d v)
    (hb : ∀ p ∈ b.B, ρ'[p.1]? = ρ[p.1]? ∧ σ'[p.1]? = σ[p.1]?) : Ok b ρ' F H σ' := by
  have held : ∀ (i : Nat) (s : Sl), ρ'[i]? = some s → s.held = true → ρ[i]? = some s ∧ σ'[i]? = σ[i]? := fun i s e hh => by
    rcases h i s e with z | rfl | ⟨d, v, rfl, _⟩
    · exact z
    · cases hh
    · cases hh
  refine ⟨k.sub, k.old, k.ext, k.new, hl, fun i s e => ?_, fun i j s s' a e1 e2 h1 h2 q1 q2 => ?_, fun p hp => ?_, fun p hp => ?_⟩
  · rcases h i s e with ⟨z1, z2⟩ | rfl | ⟨d, v, rfl, z, r⟩
    · rw [z2]; exact k.slot i s z1
    · trivial
    · rw [z]; exact ⟨v, rfl, r⟩
  · obtain ⟨f1, g1⟩ := held i s e1 h1
    obtain ⟨f2, g2⟩ := held j s' e2 h2
    exact k.sep i j s s' a f1 f2 h1 h2 (by rw [← g1]; exact q1) (by rw [← g2]; exact q2)
  · obtain ⟨z1, z2⟩ := hb p hp
    rw [z1, z2]; exact k.bor p hp
  · obtain ⟨h1, h2, h3⟩ := k.prot p hp
    refine ⟨h1, h2, fun j s ej hs w => ?_⟩
    obtain ⟨f1, g1⟩ := held j s ej hs
    exact h3 j s f1 hs (by rw [← g1]; exact w)
theorem wipe_get {own : List Nat} {i : Nat} (h : i ∉ own) : (wipe σ own)[i]? = σ[i]? := wipe_out h
theorem Ok.wiped (k : Ok b ρ F H σ) {own : List Nat} (h : wipeE own ρ = some ρ') : Ok b ρ' F H (wipe σ own) := by
  refine k.re (by rw [wipeE_len h, wipe_length]; exact k.len) (fun i s e => ?_) fun p hp => ?_
  · rcases wipeE_get h e with ⟨m, rfl, _⟩ | ⟨m, z⟩
    · exact .inr (.inl rfl)
    · exact .inl ⟨z, wipe_get m⟩
  · obtain ⟨_, d, e2⟩ := k.bor p hp
    have hn : p.1 ∉ own := fun hm => by
      have hlt : p.1 < ρ'.length := by rw [wipeE_len h]; exact (List.getElem?_eq_some_iff.mp e2).1
      rcases wipeE_get h (List.getElem?_eq_getElem hlt) with ⟨_, _, t, et, ht⟩ | ⟨m, _⟩
      · rw [e2] at et; cases et; cases ht
      · exact m hm
    exact ⟨wipeE_out h hn, wipe_get hn⟩
/-- a new object that is kept apart -/
theorem Ok.keepNew (k : Ok b ρ F H σ) {p : Addr} {o : HO} (h : H p = none) : Ok { b with P := (p, o) :: b.P } ρ F (upd H p o) σ := by
  have g : Grow F H F (upd H p o) := Grow.owned k.sub h
  have k' := k.grow g
  exact ⟨k'.sub, k'.old, k'.ext, k'.new, k'.len, k'.slot, k'.sep, k'.bor, fun q hq => by
    rcases List.mem_cons.mp hq with rfl | hq
    · exact ⟨upd_same, k.fresh_F h, k.apart_new h⟩
    · exact k'.prot q hq⟩
theorem Ok.unkept {x : Addr × HO} (k : Ok { b with P := x :: b.P } ρ F H σ) : Ok b ρ F H σ := ⟨k.sub, k.old, k.ext, k.new, k.len, k.slot, k.sep, k.bor, fun q hq => k.prot q (List.mem_cons_of_mem _ hq)⟩
/-- .. is written -/
theorem Ok.keptSet {p : Addr} {o o' : HO} (k : Ok { b with P := (p, o) :: b.P } ρ F H σ) (h0 : b.H_0 p = none) (hP : ∀ q ∈ b.P, q.1 ≠ p) : Ok { b with P := (p, o') :: b.P } ρ F (upd H p o') σ := by
  obtain ⟨p1, p2, p3⟩ := k.prot (p, o) List.mem_cons_self
  have p1 : H p = some o := p1
  have p2 : F p = none := p2
  refine ⟨fun a u e => ?_, fun a u e hb => ?_, k.ext, k.new, k.len, fun i s e => ?_, k.sep, k.bor, fun q hq => ?_⟩
  · rw [upd_ne (ne_of_none e p2)]; exact k.sub a u e
  · have hne : a ≠ p := fun z => by
      subst z
      have e : b.H_0 a = some u := e
      rw [h0] at e; cases e
    rw [upd_ne hne]; exact k.old a u e hb
  · have z := k.slot i s e
    cases s with
    | un => trivial
    | fz d => exact z
    | ow d =>
      obtain ⟨a, ea, n, n0, oa⟩ := z
      have hne : a ≠ p := fun q => p3 i _ e rfl (by rw [← q]; exact getD_ref ea)
      exact ⟨a, ea, n, n0, oa.mono (Same.refl _) fun o q => by rw [upd_ne hne]; exact q⟩
    | bo d =>
      obtain ⟨a, ea, n, n0, oa⟩ := z
      have hne : a ≠ p := fun q => p3 i _ e rfl (by rw [← q]; exact getD_ref ea)
      exact ⟨a, ea, n, n0, oa.mono (Same.refl _) fun o q => by rw [upd_ne hne]; exact q⟩
  · rcases List.mem_cons.mp hq with rfl | hq
    · exact ⟨upd_same, p2, p3⟩
    · obtain ⟨q1, q2, q3⟩ := k.prot q (List.mem_cons_of_mem _ hq)
      exact ⟨by rw [upd_ne (hP q hq)]; exact q1, q2, q3⟩
end
def mTests : List (M Bool) → M Bool
  | [] => M.ret true
  | τ :: r => mAnd τ (mTests r)
section
variable {X : Cx} {b : Bs} {W : WX} {pos : Pos}
/-- readings over any ground -/
def uE (K : PySem.W.Frag) (mg : Str → Option Value) (φ : M AV) : TE := fun σ H Q => ∃ b : Bs, b.K = K ∧ b.mg = mg ∧ tE b W0 φ σ H Q
def uT (K : PySem.W.Frag) (mg : Str → Option Value) (φ : M Bool) : TT := fun σ H Q => ∃ b : Bs, b.K = K ∧ b.mg = mg ∧ tT b W0 φ σ H Q
def uG (K : PySem.W.Frag) (mg : Str → Option Value) (t : Tg) : TG := fun v σ H Q => ∃ b : Bs, b.K = K ∧ b.mg = mg ∧ tGd b t v σ H Q
theorem pe_u {e : Expr} {φ : M AV} (h : ∀ b, Fit X b → PE X e (tE b W0 φ)) : PE X e (uE X.K X.mg φ) := ⟨fun pins s σ H Q I ⟨b, h1, h2, q⟩ => (h b ⟨h1, h2⟩).run pins s σ H Q I q⟩
theorem pt_u {e : Expr} {φ : M Bool} (h : ∀ b, Fit X b → PT X e (tT b W0 φ)) : PT X e (uT X.K X.mg φ) := ⟨fun pins s σ H Q I ⟨b, h1, h2, q⟩ => (h b ⟨h1, h2⟩).run pins s σ H Q I q⟩
theorem pg_u {e : Expr} {t : Tg} (h : ∀ b, Fit X b → PG X e (tGd b t)) : PG X e (uG X.K X.mg t) := ⟨fun pins s σ H v u Q I r ⟨b, h1, h2, q⟩ => (h b ⟨h1, h2⟩).run pins s σ H v u Q I r q⟩
/-- a comprehension's tests -/
structure PTd (X : Cx) (ifs : List Expr) (τ : M Bool) : Prop where
  run : PTs X ifs (uT X.K X.mg τ)
theorem dts_nil : PTd X [] (M.ret true) := ⟨⟨fun pins s σ H Q I ⟨b, h1, h2, F, ρ, k, h⟩ => pts_nil.run pins s σ H Q I (h F H k (Same.refl _))⟩⟩
theorem dts_one {c : Expr} {τ : M Bool} (h : ∀ b, Fit X b → PT X c (tT b W0 τ)) : PTd X [c] τ := ⟨pts_one (pt_u h)⟩
theorem wipe_in : ∀ {own : List Nat} {σ : St} {i : Nat}, i ∈ own → (wipe σ own)[i]? = if i < σ.length then some none else none
  | [], _, _, h => by cases h
  | v :: vs, σ, i, h => by
    unfold wipe
    by_cases hv : i = v
    · subst hv
      rw [List.getElem?_set]
      simp only [if_true, wipe_length]
    · rw [List.getElem?_set_ne (Ne.symm hv)]
      rcases List.mem_cons.mp h with z | z
      · exact absurd z hv
      · exact wipe_in z
theorem out_wipe {l own : List Nat} {σ σ' : St} (o : Out l σ σ') (h : ∀ i ∈ l, i ∈ own) : wipe σ' own = wipe σ own := by
  apply List.ext_getElem?
  intro i
  by_cases hi : i ∈ own
  · rw [wipe_in hi, wipe_in hi, o.1]
  · rw [wipe_get hi, wipe_get hi, o.2 i fun hm => hi (h i hm)]
theorem wipe_wipe {own : List Nat} {σ : St} : wipe (wipe σ own) own = wipe σ own := out_wipe (l := own) ⟨wipe_length σ own, fun j hj => wipe_get hj⟩ fun _ h => h
/-- what is wanted of a turn's data: the loop comes to this end -/
theorem comp_rd {ιs : M (List D)} {τ : M Bool} {φ : M AV} {t : Tg} (own : List (Str × Nat)) (fit : Fit X b) (hsl : ∀ i ∈ t.slots, i ∈ own.map (·.2)) : ∀ σ H Q, tE b W (mComp ιs (own.map (·.2)) t τ φ) σ H Q → tLc (tI b W ιs) (uG X.K X.mg t) (uT X.K X.mg τ) (uE X.K X.mg φ) (own.map (·.2)) σ H Q := by
  intro σ H Q ⟨F, ρ, k, h⟩
  refine ⟨F, ρ, k, ?_⟩
  generalize hown : own.map (·.2) = ow at *
  refine h.bnd.imp fun ds ρ0 F1 H1 k1 s1 ⟨_, h1⟩ J hJ D hD => ?_
  cases ew : wipeE ow ρ0 with
  | none => simp only [ew] at h1; exact h1.elim
  | some ρ1 =>
    simp only [ew] at h1
    cases el : loopC ow t τ φ ds [] ρ1 with
    | no => simp only [el] at h1; exact h1.elim
    | ex x ρ' => simp only [el] at h1; exact h1.elim
    | ok accE ρE =>
      simp only [el] at h1
      have hD0 : b.H_0 D = none := k1.fresh_0 hD
      have hPD : ∀ q ∈ b.P, q.1 ≠ D := k1.prot_new hD
      refine ⟨fun i m H => m = ds.length - i ∧ i ≤ ds.length ∧ ∃ F2 ρ2 acc xs, Ok { b with P := (D, .lst xs) :: b.P } ρ2 F2 H (wipe σ ow) ∧ Same F1 F2 ∧ RepL b.K b.mg F2 acc xs ∧ loopC ow t τ φ (ds.drop i) acc ρ2 = .ok accE ρE,
        ⟨ds.length, rfl, Nat.zero_le _, F1, ρ1, [], [], (k1.wiped ew).keepNew hD, Same.refl _, by unfold RepL; rfl, el⟩, ?_⟩
      rintro i m H2 ⟨rfl, hi, F2, ρ2, acc, xs, k2, s2, ra, e2⟩
      obtain ⟨go, stop⟩ := hJ F2 H2 s2 k2.sub
      by_cases hlt : i < ds.length
      · obtain ⟨g1, g2⟩ := go i ds[i] (List.getElem?_eq_getElem hlt)
        have e : ds.drop i = ds[i] :: ds.drop (i + 1) := List.drop_eq_getElem_cons hlt
        rw [e] at e2
        unfold loopC at e2
        obtain ⟨u, ρ3, eb, e2⟩ := bnd_inv e2
        obtain ⟨c, ρ4, et, e2⟩ := bnd_inv e2
        refine .inr ⟨g1, fun H' => ∃ F3 ρ3 acc' xs', Ok { b with P := (D, .lst xs') :: b.P } ρ3 F3 H' (wipe σ ow) ∧ Same F1 F3 ∧ RepL b.K b.mg F3 acc' xs' ∧ loopC ow t τ φ (ds.drop (i + 1)) acc' ρ3 = .ok accE ρE,
          fun H' z => ⟨ds.length - (i + 1), by omega, rfl, hlt, z⟩, fun x H' y => ?_⟩
        obtain ⟨F3, gr, rx⟩ := g2 x H' y
        refine ⟨{ b with P := (D, .lst xs) :: b.P }, fit.K, fit.mg, F3, ρ2, ds[i], k2.grow gr, rx, ?_⟩
        rw [eb]
        intro σ2 k3 o3
        have hw : wipe σ2 ow = wipe σ ow := (out_wipe o3 hsl).trans wipe_wipe
        refine ⟨hw, { b with P := (D, .lst xs) :: b.P }, fit.K, fit.mg, F3, ρ3, k3, ?_⟩
        rw [et]
        intro F4 H4 k4 s4
        cases c with
        | false =>
          refine iteF ?_
          rw [if_neg Bool.false_ne_true] at e2
          obtain ⟨_, ρ5, e4, e2⟩ := bnd_inv e2
          have k5 := k4.wiped (wipeM_inv e4)
          rw [hw] at k5
          exact ⟨F4, ρ5, acc, xs, k5, s2.trans (gr.ext.trans s4), ra.mono (gr.ext.trans s4), e2⟩
        | true =>
          rw [if_pos rfl] at e2
          obtain ⟨av, ρ5, ep, e2⟩ := bnd_inv e2
          obtain ⟨d, ρ6, ef, e2⟩ := bnd_inv e2
          refine iteT ⟨{ b with P := (D, .lst xs) :: b.P }, fit.K, fit.mg, F4, ρ4, k4, ?_⟩
          rw [ep]
          intro F5 H5 k5 s5 y ry
          obtain ⟨F6, k6, s6, r6⟩ := k5.froze ry ef
          by_cases hz : acc.length < sizeLine
          · rw [if_pos hz] at e2
            obtain ⟨_, ρ7, e4, e2⟩ := bnd_inv e2
            have pD := (k6.prot (D, .lst xs) List.mem_cons_self).1
            have st := gr.ext.trans (s4.trans (s5.trans s6))
            refine ⟨xs, pD, by rw [← ra.len]; exact hz, F6, ρ7, acc ++ [d], xs ++ [y], ?_, s2.trans st, RepL.snoc r6 (ra.mono st), e2⟩
            have k7 := k6.wiped (wipeM_inv e4)
            rw [hw] at k7
            exact k7.keptSet hD0 hPD
          · rw [if_neg hz] at e2; cases e2
      · have hi' : i = ds.length := by omega
        subst hi'
        rw [List.drop_length] at e2
        unfold loopC M.ret at e2
        injection e2 with e3 e4
        subst e3 e4
        refine .inl ⟨stop, ?_⟩
        obtain ⟨q1, q2, q3⟩ := k2.prot (D, .lst xs) List.mem_cons_self
        have k3 := k2.unkept
        have kk : Ok b (restE ow ρ0 ρ2) F2 H2 σ := by
          refine k3.re (by rw [restE_len, k3.len, wipe_length]) (fun j s ej => ?_) fun p hp => ?_
          · rcases restE_get ej with ⟨m, rfl | ⟨d, rfl, e0⟩⟩ | ⟨m, z⟩
            · exact .inr (.inl rfl)
            · obtain ⟨v, ev, r⟩ := k1.slot j _ e0
              exact .inr (.inr ⟨d, v, rfl, getD_ref ev, r.mono s2⟩)
            · exact .inl ⟨z, (wipe_get m).symm⟩
          · obtain ⟨_, d, e2⟩ := k3.bor p hp
            have hn : p.1 ∉ ow := fun hm => by
              obtain ⟨e1, _⟩ := k3.bor p hp
              rw [wipe_in hm] at e1
              split at e1 <;> cases e1
            exact ⟨restE_out hn, (wipe_get hn).symm⟩
        refine h1 F2 H2 kk s2 _ ⟨D, rfl, q2, hD0, ⟨xs, q1, ra⟩, fun j s ej hs w => ?_, hPD⟩
        rcases restE_get ej with ⟨m, rfl | ⟨d, rfl, e0⟩⟩ | ⟨m, z⟩
        · cases hs
        · cases hs
        · exact q3 j s z hs (by rw [wipe_get m]; exact w)
theorem de_comp {elt tg iter : Expr} {ifs : List Expr} {scope : Scope} {ιs : M (List D)} {τ : M Bool} {φ : M AV} {t : Tg} (own : List (Str × Nat)) (fit : Fit X b) (hN : X.N.Nodup) (hi : PI X tg iter (tI b W ιs)) (ok : BlkOk X.N X.env.scope scope own) (hsl : ∀ i ∈ t.slots, i ∈ own.map (·.2))
    (hg : ∀ (s : Shared) (H : Hp) (C : Addr) (cl : List (Str × Addr)) (fp : List Addr) (b : Bs), Fit (X.blk s H scope (compEnvC scope cl C X.env) fp) b → PG (X.blk s H scope (compEnvC scope cl C X.env) fp) tg (tGd b t))
    (ht : ∀ (s : Shared) (H : Hp) (C : Addr) (cl : List (Str × Addr)) (fp : List Addr), PTd (X.blk s H scope (compEnvC scope cl C X.env) fp) ifs τ)
    (he : ∀ (s : Shared) (H : Hp) (C : Addr) (cl : List (Str × Addr)) (fp : List Addr) (b : Bs), Fit (X.blk s H scope (compEnvC scope cl C X.env) fp) b → PE (X.blk s H scope (compEnvC scope cl C X.env) fp) elt (tE b W0 φ)) (hc : X.calm = true := by rfl) (hs : ∀ x, foldedSetIterable iter X.env x = pure x := by intro _; rfl) :
      PE X (.ListComp elt [⟨tg, iter, ifs, 0⟩] scope pos) (tE b W (mComp ιs (own.map (·.2)) t τ φ)) :=
  weakE (pe_lc (wi := tI b W ιs) (g := uG X.K X.mg t) (tt := uT X.K X.mg τ) (te := uE X.K X.mg φ) hc hN hi ok (fun s H C cl fp => pg_u (hg s H C cl fp)) (fun s H C cl fp => (ht s H C cl fp).run) (fun s H C cl fp => pe_u (he s H C cl fp)) hs) (comp_rd own fit hsl)
/-- name = [..], the name a plain local -/
theorem ds_setLc {i : Nat} {y : Str} {py spos : Pos} {elt tg iter : Expr} {ifs : List Expr} {scope : Scope} {ιs : M (List D)} {τ : M Bool} {φ : M AV} {t : Tg} (own : List (Str × Nat)) (fit : Fit X b) (hN : X.N.Nodup) (hy : X.N[i]? = some y) (hyl : X.env.scope.names.lookup y = some .local) (hi : PI X tg iter (tI b W ιs)) (ok : BlkOk X.N X.env.scope scope own) (hsl : ∀ i ∈ t.slots, i ∈ own.map (·.2))
    (hg : ∀ (s : Shared) (H : Hp) (C : Addr) (cl : List (Str × Addr)) (fp : List Addr) (b : Bs), Fit (X.blk s H scope (compEnvC scope cl C X.env) fp) b → PG (X.blk s H scope (compEnvC scope cl C X.env) fp) tg (tGd b t))
    (ht : ∀ (s : Shared) (H : Hp) (C : Addr) (cl : List (Str × Addr)) (fp : List Addr), PTd (X.blk s H scope (compEnvC scope cl C X.env) fp) ifs τ)
    (he : ∀ (s : Shared) (H : Hp) (C : Addr) (cl : List (Str × Addr)) (fp : List Addr) (b : Bs), Fit (X.blk s H scope (compEnvC scope cl C X.env) fp) b → PE (X.blk s H scope (compEnvC scope cl C X.env) fp) elt (tE b W0 φ)) (hc : X.calm = true := by rfl) (hs : ∀ x, foldedSetIterable iter X.env x = pure x := by intro _; rfl)
    (hsw : swapsWith (.ListComp elt [⟨tg, iter, ifs, 0⟩] scope pos) (some (.Name y py)) spos.line X.env = pure true := by rfl) :
    PS X (.Assign [.Name y py] (.ListComp elt [⟨tg, iter, ifs, 0⟩] scope pos) spos) (tS b W (mAsg i (mComp ιs (own.map (·.2)) t τ φ))) := by
  refine weakS (ps_setLc (wi := tI b W ιs) (g := uG X.K X.mg t) (tt := uT X.K X.mg τ) (te := uE X.K X.mg φ) hc hN hy hyl hsw hi ok (fun s H C cl fp => pg_u (hg s H C cl fp)) (fun s H C cl fp => (ht s H C cl fp).run) (fun s H C cl fp => pe_u (he s H C cl fp)) hs) fun D σ H ⟨F, ρ, k, h⟩ => ?_
  refine comp_rd own fit hsl σ H (fun x H1 => gName i x σ H1 D.nx) ?_
  refine runSE k h fun av v ρ1 F1 H1 k1 s1 r1 h1 => ?_
  obtain ⟨ρ2, F2, k2, s2, h2⟩ := Then.asg k1 r1 h1
  exact h2 _ F2 H1 k2 (Same.refl _)

end
end DL

namespace DL
open PySem PySem.Spec L2
theorem rcAt_V {A : Around} {s : Shared} {y x : V} {u v : Value} (ry : RelV y u) (rx : RelV x v) (fy : flatV y = true) (fx : flatV x = true) : SeqAt.RcAt A s u v (eqV y x) := by
  cases y with
  | non =>
    cases ry
    cases x with
    | non => cases rx; exact SeqAt.RcAt.none_none
    | bl b => cases rx; exact SeqAt.RcAt.none_bool b
    | int b => obtain ⟨t, rfl⟩ := rx; exact SeqAt.RcAt.none_int b t
    | str b => obtain ⟨t, rfl⟩ := rx; exact SeqAt.RcAt.none_str b t
    | _ => exact absurd (show false = true from fx) Bool.false_ne_true
  | bl a =>
    cases ry
    cases x with
    | non => cases rx; exact SeqAt.RcAt.bool_none a
    | bl b => cases rx; exact SeqAt.RcAt.bool_bool a b
    | int b => obtain ⟨t, rfl⟩ := rx; exact SeqAt.RcAt.bool_int a b t
    | str b => obtain ⟨t, rfl⟩ := rx; exact SeqAt.RcAt.bool_str a b t
    | _ => exact absurd (show false = true from fx) Bool.false_ne_true
  | int a =>
    obtain ⟨t', rfl⟩ := ry
    cases x with
    | non => cases rx; exact SeqAt.RcAt.int_none a t'
    | bl b => cases rx; exact SeqAt.RcAt.int_bool a t' b
    | int b => obtain ⟨t, rfl⟩ := rx; exact SeqAt.RcAt.int_int a t' b t
    | str b => obtain ⟨t, rfl⟩ := rx; exact SeqAt.RcAt.int_str a t' b t
    | _ => exact absurd (show false = true from fx) Bool.false_ne_true
  | str a =>
    obtain ⟨t', rfl⟩ := ry
    cases x with
    | non => cases rx; exact SeqAt.RcAt.str_none a t'
    | bl b => cases rx; exact SeqAt.RcAt.str_bool a t' b
    | int b => obtain ⟨t, rfl⟩ := rx; exact SeqAt.RcAt.str_int a t' b t
    | str b => obtain ⟨t, rfl⟩ := rx; exact SeqAt.RcAt.str_str a t' b t
    | _ => exact absurd (show false = true from fx) Bool.false_ne_true
  | _ => exact absurd (show false = true from fy) Bool.false_ne_true
theorem rcNeAt_V {A : Around} {s : Shared} {y x : V} {u v : Value} (ry : RelV y u) (rx : RelV x v) (fy : flatV y = true) (fx : flatV x = true) : SeqAt.RcNeAt A s u v (!eqV y x) := by
  cases y with
  | non =>
    cases ry
    cases x with
    | non => cases rx; exact SeqAt.RcNeAt.none_none
    | bl b => cases rx; exact SeqAt.RcNeAt.none_bool b
    | int b => obtain ⟨t, rfl⟩ := rx; exact SeqAt.RcNeAt.none_int b t
    | str b => obtain ⟨t, rfl⟩ := rx; exact SeqAt.RcNeAt.none_str b t
    | _ => exact absurd (show false = true from fx) Bool.false_ne_true
  | bl a =>
    cases ry
    cases x with
    | non => cases rx; exact SeqAt.RcNeAt.bool_none a
    | bl b => cases rx; exact SeqAt.RcNeAt.bool_bool a b
    | int b => obtain ⟨t, rfl⟩ := rx; exact SeqAt.RcNeAt.bool_int a b t
    | str b => obtain ⟨t, rfl⟩ := rx; exact SeqAt.RcNeAt.bool_str a b t
    | _ => exact absurd (show false = true from fx) Bool.false_ne_true
  | int a =>
    obtain ⟨t', rfl⟩ := ry
    cases x with
    | non => cases rx; exact SeqAt.RcNeAt.int_none a t'
    | bl b => cases rx; exact SeqAt.RcNeAt.int_bool a t' b
    | int b => obtain ⟨t, rfl⟩ := rx; exact SeqAt.RcNeAt.int_int a t' b t
    | str b => obtain ⟨t, rfl⟩ := rx; exact SeqAt.RcNeAt.int_str a t' b t
    | _ => exact absurd (show false = true from fx) Bool.false_ne_true
  | str a =>
    obtain ⟨t', rfl⟩ := ry
    cases x with
    | non => cases rx; exact SeqAt.RcNeAt.str_none a t'
    | bl b => cases rx; exact SeqAt.RcNeAt.str_bool a t' b
    | int b => obtain ⟨t, rfl⟩ := rx; exact SeqAt.RcNeAt.str_int a t' b t
    | str b => obtain ⟨t, rfl⟩ := rx; exact SeqAt.RcNeAt.str_str a t' b t
    | _ => exact absurd (show false = true from fx) Bool.false_ne_true
  | _ => exact absurd (show false = true from fy) Bool.false_ne_true
theorem EqAt_list_flat {A : Around} {s : Shared} {x : V} {v : Value} {l : Addr} {its : Array Value} (hl : s.heap.IsList l its) (hu : A.units < cLine) (rx : RelV x v) (fx : flatV x = true) : SeqAt.EqAt A s (.ref l) v false := by
  cases x with
  | non => cases rx; exact SeqAt.EqAt.list_none hl hu
  | bl b => cases rx; exact SeqAt.EqAt.list_bool b hl hu
  | int b => obtain ⟨t, rfl⟩ := rx; exact SeqAt.EqAt.list_int b t hl hu
  | str b => obtain ⟨t, rfl⟩ := rx; exact SeqAt.EqAt.list_str b t hl hu
  | _ => exact absurd (show false = true from fx) Bool.false_ne_true
theorem EqAt_flat_list {A : Around} {s : Shared} {x : V} {v : Value} {l : Addr} {its : Array Value} (hl : s.heap.IsList l its) (hu : A.units < cLine) (rx : RelV x v) (fx : flatV x = true) : SeqAt.EqAt A s v (.ref l) false := by
  cases x with
  | non => cases rx; exact SeqAt.EqAt.none_list hl hu
  | bl b => cases rx; exact SeqAt.EqAt.bool_list b hl hu
  | int b => obtain ⟨t, rfl⟩ := rx; exact SeqAt.EqAt.int_list b t hl hu
  | str b => obtain ⟨t, rfl⟩ := rx; exact SeqAt.EqAt.str_list b t hl hu
  | _ => exact absurd (show false = true from fx) Bool.false_ne_true
theorem EqAt_tuple_flat {A : Around} {s : Shared} {x : V} {v : Value} {l : Addr} {its : Array Value} (hl : s.heap.IsTuple l its) (hu : A.units < cLine) (rx : RelV x v) (fx : flatV x = true) : SeqAt.EqAt A s (.ref l) v false := by
  cases x with
  | non => cases rx; exact SeqAt.EqAt.tuple_none hl hu
  | bl b => cases rx; exact SeqAt.EqAt.tuple_bool b hl hu
  | int b => obtain ⟨t, rfl⟩ := rx; exact SeqAt.EqAt.tuple_int b t hl hu
  | str b => obtain ⟨t, rfl⟩ := rx; exact SeqAt.EqAt.tuple_str b t hl hu
  | _ => exact absurd (show false = true from fx) Bool.false_ne_true
theorem EqAt_flat_tuple {A : Around} {s : Shared} {x : V} {v : Value} {l : Addr} {its : Array Value} (hl : s.heap.IsTuple l its) (hu : A.units < cLine) (rx : RelV x v) (fx : flatV x = true) : SeqAt.EqAt A s v (.ref l) false := by
  cases x with
  | non => cases rx; exact SeqAt.EqAt.none_tuple hl hu
  | bl b => cases rx; exact SeqAt.EqAt.bool_tuple b hl hu
  | int b => obtain ⟨t, rfl⟩ := rx; exact SeqAt.EqAt.int_tuple b t hl hu
  | str b => obtain ⟨t, rfl⟩ := rx; exact SeqAt.EqAt.str_tuple b t hl hu
  | _ => exact absurd (show false = true from fx) Bool.false_ne_true
theorem RcAt_list_flat {A : Around} {s : Shared} {x : V} {v : Value} {l : Addr} {its : Array Value} (hl : s.heap.IsList l its) (hu : A.units < cLine) (rx : RelV x v) (fx : flatV x = true) : SeqAt.RcAt A s (.ref l) v false := by
  cases x with
  | non => cases rx; exact SeqAt.RcAt.list_none hl hu
  | bl b => cases rx; exact SeqAt.RcAt.list_bool b hl hu
  | int b => obtain ⟨t, rfl⟩ := rx; exact SeqAt.RcAt.list_int b t hl hu
  | str b => obtain ⟨t, rfl⟩ := rx; exact SeqAt.RcAt.list_str b t hl hu
  | _ => exact absurd (show false = true from fx) Bool.false_ne_true
theorem RcAt_flat_list {A : Around} {s : Shared} {x : V} {v : Value} {l : Addr} {its : Array Value} (hl : s.heap.IsList l its) (hu : A.units < cLine) (rx : RelV x v) (fx : flatV x = true) : SeqAt.RcAt A s v (.ref l) false := by
  cases x with
  | non => cases rx; exact SeqAt.RcAt.none_list hl hu
  | bl b => cases rx; exact SeqAt.RcAt.bool_list b hl hu
  | int b => obtain ⟨t, rfl⟩ := rx; exact SeqAt.RcAt.int_list b t hl hu
  | str b => obtain ⟨t, rfl⟩ := rx; exact SeqAt.RcAt.str_list b t hl hu
  | _ => exact absurd (show false = true from fx) Bool.false_ne_true
theorem RcAt_tuple_flat {A : Around} {s : Shared} {x : V} {v : Value} {l : Addr} {its : Array Value} (hl : s.heap.IsTuple l its) (hu : A.units < cLine) (rx : RelV x v) (fx : flatV x = true) : SeqAt.RcAt A s (.ref l) v false := by
  cases x with
  | non => cases rx; exact SeqAt.RcAt.tuple_none hl hu
  | bl b => cases rx; exact SeqAt.RcAt.tuple_bool b hl hu
  | int b => obtain ⟨t, rfl⟩ := rx; exact SeqAt.RcAt.tuple_int b t hl hu
  | str b => obtain ⟨t, rfl⟩ := rx; exact SeqAt.RcAt.tuple_str b t hl hu
  | _ => exact absurd (show false = true from fx) Bool.false_ne_true
theorem RcAt_flat_tuple {A : Around} {s : Shared} {x : V} {v : Value} {l : Addr} {its : Array Value} (hl : s.heap.IsTuple l its) (hu : A.units < cLine) (rx : RelV x v) (fx : flatV x = true) : SeqAt.RcAt A s v (.ref l) false := by
  cases x with
  | non => cases rx; exact SeqAt.RcAt.none_tuple hl hu
  | bl b => cases rx; exact SeqAt.RcAt.bool_tuple b hl hu
  | int b => obtain ⟨t, rfl⟩ := rx; exact SeqAt.RcAt.int_tuple b t hl hu
  | str b => obtain ⟨t, rfl⟩ := rx; exact SeqAt.RcAt.str_tuple b t hl hu
  | _ => exact absurd (show false = true from fx) Bool.false_ne_true
theorem RcNeAt_list_flat {A : Around} {s : Shared} {x : V} {v : Value} {l : Addr} {its : Array Value} (hl : s.heap.IsList l its) (hu : A.units < cLine) (rx : RelV x v) (fx : flatV x = true) : SeqAt.RcNeAt A s (.ref l) v true := by
  cases x with
  | non => cases rx; exact SeqAt.RcNeAt.list_none hl hu
  | bl b => cases rx; exact SeqAt.RcNeAt.list_bool b hl hu
  | int b => obtain ⟨t, rfl⟩ := rx; exact SeqAt.RcNeAt.list_int b t hl hu
  | str b => obtain ⟨t, rfl⟩ := rx; exact SeqAt.RcNeAt.list_str b t hl hu
  | _ => exact absurd (show false = true from fx) Bool.false_ne_true
theorem RcNeAt_flat_list {A : Around} {s : Shared} {x : V} {v : Value} {l : Addr} {its : Array Value} (hl : s.heap.IsList l its) (hu : A.units < cLine) (rx : RelV x v) (fx : flatV x = true) : SeqAt.RcNeAt A s v (.ref l) true := by
  cases x with
  | non => cases rx; exact SeqAt.RcNeAt.none_list hl hu
  | bl b => cases rx; exact SeqAt.RcNeAt.bool_list b hl hu
  | int b => obtain ⟨t, rfl⟩ := rx; exact SeqAt.RcNeAt.int_list b t hl hu
  | str b => obtain ⟨t, rfl⟩ := rx; exact SeqAt.RcNeAt.str_list b t hl hu
  | _ => exact absurd (show false = true from fx) Bool.false_ne_true
theorem RcNeAt_tuple_flat {A : Around} {s : Shared} {x : V} {v : Value} {l : Addr} {its : Array Value} (hl : s.heap.IsTuple l its) (hu : A.units < cLine) (rx : RelV x v) (fx : flatV x = true) : SeqAt.RcNeAt A s (.ref l) v true := by
  cases x with
  | non => cases rx; exact SeqAt.RcNeAt.tuple_none hl hu
  | bl b => cases rx; exact SeqAt.RcNeAt.tuple_bool b hl hu
  | int b => obtain ⟨t, rfl⟩ := rx; exact SeqAt.RcNeAt.tuple_int b t hl hu
  | str b => obtain ⟨t, rfl⟩ := rx; exact SeqAt.RcNeAt.tuple_str b t hl hu
  | _ => exact absurd (show false = true from fx) Bool.false_ne_true
theorem RcNeAt_flat_tuple {A : Around} {s : Shared} {x : V} {v : Value} {l : Addr} {its : Array Value} (hl : s.heap.IsTuple l its) (hu : A.units < cLine) (rx : RelV x v) (fx : flatV x = true) : SeqAt.RcNeAt A s v (.ref l) true := by
  cases x with
  | non => cases rx; exact SeqAt.RcNeAt.none_tuple hl hu
  | bl b => cases rx; exact SeqAt.RcNeAt.bool_tuple b hl hu
  | int b => obtain ⟨t, rfl⟩ := rx; exact SeqAt.RcNeAt.int_tuple b t hl hu
  | str b => obtain ⟨t, rfl⟩ := rx; exact SeqAt.RcNeAt.str_tuple b t hl hu
  | _ => exact absurd (show false = true from fx) Bool.false_ne_true
/-! ### == of data -/
def fl : D → Option V
  | .non => some .non
  | .bl b => some (.bl b)
  | .int i => some (.int i)
  | .str x => some (.str x)
  | _ => none
mutual
def eqD : D → Nat → D → Option Bool
  | .lst xs, n, e => match e with
    | .lst ys => match n with
      | 0 => none
      | m + 1 => if xs.length = ys.length then eqL xs m ys else some false
    | .tup _ => some false
    | e => (fl e).map fun _ => false
  | .tup xs, n, e => match e with
    | .tup ys => match n with
      | 0 => none
      | m + 1 => (eqL xs m ys).map fun k => k && xs.length == ys.length
    | .lst _ => some false
    | e => (fl e).map fun _ => false
  | .non, _, e => match e with
    | .lst _ => some false
    | .tup _ => some false
    | e => (fl e).map (eqV .non)
  | .bl b, _, e => match e with
    | .lst _ => some false
    | .tup _ => some false
    | e => (fl e).map (eqV (.bl b))
  | .int b, _, e => match e with
    | .lst _ => some false
    | .tup _ => some false
    | e => (fl e).map (eqV (.int b))
  | .str b, _, e => match e with
    | .lst _ => some false
    | .tup _ => some false
    | e => (fl e).map (eqV (.str b))
  | _, _, _ => none
def eqL : List D → Nat → List D → Option Bool
  | x :: xs, n, y :: ys => match eqD x n y, eqL xs n ys with
    | some a, some c => some (a && c)
    | _, _ => none
  | _, _, _ => some true
end
theorem fl_rep {K : PySem.W.Frag} {mg : Str → Option Value} {F : Hp} {d : D} {x v : V} (h : fl d = some x) (r : Rep K mg F d v) : v = x ∧ flatV x = true := by
  cases d with
  | non => cases h; unfold Rep at r; exact ⟨r, rfl⟩
  | bl b => cases h; unfold Rep at r; exact ⟨r, rfl⟩
  | int b => cases h; unfold Rep at r; exact ⟨r, rfl⟩
  | str b => cases h; unfold Rep at r; exact ⟨r, rfl⟩
  | _ => cases h
theorem fl_own {K : PySem.W.Frag} {mg : Str → Option Value} {F H : Hp} {d : D} {x : V} {a : Addr} (h : fl d = some x) (r : OwnAt K mg F H a d) : False := by
  cases d with
  | lst _ => cases h
  | dct _ => cases h
  | ins _ _ => cases h
  | _ => exact r.elim
/-- the two sides of a list or tuple that is read -/
theorem RepD.lst {K : PySem.W.Frag} {mg : Str → Option Value} {F H : Hp} {ds : List D} {v : V} (s : Sub F H) (r : RepD K mg F H (.lst ds) v) : ∃ a xs, v = .ref a ∧ H a = some (.lst xs) ∧ RepL K mg F ds xs := by
  rcases r with r | ⟨a, rfl, xs, e, l⟩
  · unfold Rep at r
    obtain ⟨a, xs, rfl, e, l⟩ := r
    exact ⟨a, xs, rfl, s.lst e, l⟩
  · exact ⟨a, xs, rfl, e, l⟩
theorem RepD.tup {K : PySem.W.Frag} {mg : Str → Option Value} {F H : Hp} {ds : List D} {v : V} (s : Sub F H) (r : RepD K mg F H (.tup ds) v) : ∃ a xs, v = .ref a ∧ SqT K H a xs ∧ RepL K mg F ds xs := by
  rcases r with r | ⟨a, rfl, oa⟩
  · unfold Rep at r
    obtain ⟨a, xs, rfl, e, l⟩ := r
    exact ⟨a, xs, rfl, s.sqT e, l⟩
  · exact oa.elim
theorem RepD.flat {K : PySem.W.Frag} {mg : Str → Option Value} {F H : Hp} {d : D} {x v : V} (h : fl d = some x) (r : RepD K mg F H d v) : v = x ∧ flatV x = true := by
  rcases r with r | ⟨a, _, oa⟩
  · exact fl_rep h r
  · exact (fl_own h oa).elim
section
variable {X : Cx} {pins : List (Addr × Obj)} {σ : St} {F H : Hp} {s : Shared} {mg : Str → Option Value}
theorem eqL_get : ∀ {xs : List D} {n : Nat} {ys : List D} {b : Bool}, eqL xs n ys = some b → ∃ e : Nat → Bool, (∀ (i : Nat) (x y : D), xs[i]? = some x → ys[i]? = some y → eqD x n y = some (e i)) ∧ (List.range (min xs.length ys.length)).all e = b
  | [], n, ys, b, h => by
    unfold eqL at h; cases h
    exact ⟨fun _ => true, fun i x y e => (by cases e), by simp⟩
  | x :: xs, n, [], b, h => by
    unfold eqL at h; cases h
    exact ⟨fun _ => true, fun i x y _ e => (by cases e), by simp⟩
  | x :: xs, n, y :: ys, b, h => by
    unfold eqL at h
    cases e1 : eqD x n y with
    | none => rw [e1] at h; cases h
    | some a =>
      rw [e1] at h
      cases e2 : eqL xs n ys with
      | none => rw [e2] at h; cases h
      | some c =>
        rw [e2] at h; cases h
        obtain ⟨e, h1, h2⟩ := eqL_get e2
        refine ⟨fun i => match i with | 0 => a | i + 1 => e i, fun i x' y' ex ey => ?_, ?_⟩
        · cases i with
          | zero => cases ex; cases ey; exact e1
          | succ i => exact h1 i x' y' ex ey
        · have hm : min (x :: xs).length (y :: ys).length = min xs.length ys.length + 1 := by simp only [List.length_cons]; omega
          rw [hm, List.range_succ_eq_map, List.all_cons, List.all_map]
          show (a && (List.range (min xs.length ys.length)).all e) = (a && c)
          rw [h2]
/-- items: data, values, the heap's values -/
theorem item_at {K : PySem.W.Frag} {ds : List D} {vs : List V} {us : List Value} (l : RepL K mg F ds vs) (r : Vals vs us) {i : Nat} (hi : i < us.length) : ∃ d v, ds[i]? = some d ∧ Rep K mg F d v ∧ RelV v us[i] := by
  have h1 : i < vs.length := by rw [r.length]; exact hi
  have h2 : i < ds.length := by rw [l.len]; exact h1
  obtain ⟨v, ev, rv⟩ := l.get (List.getElem?_eq_getElem h2)
  obtain ⟨u, eu, ru⟩ := r.get ev
  rw [List.getElem?_eq_getElem hi] at eu
  cases eu
  exact ⟨ds[i], v, List.getElem?_eq_getElem h2, rv, ru⟩
theorem eqV_self {x : V} (h : flatV x = true) : eqV x x = true := by
  cases x with
  | non => rfl
  | bl b => simp [eqV]
  | int b => simp [eqV]
  | str b => simp [eqV]
  | _ => cases h
theorem eqD_flat {d e : D} {x : V} {n : Nat} (h : fl d = some x) : eqD d n e = match e with
    | .lst _ => some false
    | .tup _ => some false
    | e => (fl e).map (eqV x) := by
  cases d with
  | non => cases h; unfold eqD; rfl
  | bl b => cases h; unfold eqD; rfl
  | int b => cases h; unfold eqD; rfl
  | str b => cases h; unfold eqD; rfl
  | _ => cases h
theorem eqD_flat_same {K : PySem.W.Frag} {F H : Hp} {d e : D} {x v : V} {n : Nat} {b : Bool} (hx : fl d = some x) (sb : Sub F H) (r1 : RepD K mg F H d v) (r2 : RepD K mg F H e v) (h : eqD d n e = some b) : b = true := by
  obtain ⟨rfl, fx⟩ := r1.flat hx
  rw [eqD_flat hx] at h
  have nr : ∀ a, v ≠ .ref a := fun a q => by rw [q] at fx; cases fx
  cases e with
  | lst es =>
    obtain ⟨a, _, ea, _⟩ := r2.lst sb
    exact absurd ea (nr a)
  | tup es =>
    obtain ⟨a, _, ea, _⟩ := r2.tup sb
    exact absurd ea (nr a)
  | non => obtain ⟨rfl, f⟩ := r2.flat rfl; cases h; exact eqV_self f
  | bl c => obtain ⟨rfl, f⟩ := r2.flat rfl; cases h; exact eqV_self f
  | int c => obtain ⟨rfl, f⟩ := r2.flat rfl; cases h; exact eqV_self f
  | str c => obtain ⟨rfl, f⟩ := r2.flat rfl; cases h; exact eqV_self f
  | _ => cases h
mutual
theorem eqD_same (I : Inv X pins σ H s) (sb : Sub F H) : ∀ (d : D) {n : Nat} {e : D} {v : V} {b : Bool}, RepD X.K mg F H d v → RepD X.K mg F H e v → eqD d n e = some b → b = true
  | .lst ds, n, e, v, b, r1, r2, h => by
    obtain ⟨a, xs, rfl, e1, l1⟩ := r1.lst sb
    unfold eqD at h
    cases e with
    | lst es =>
      obtain ⟨a2, ys, ea, e2, l2⟩ := r2.lst sb
      cases ea
      rw [e1] at e2; cases e2
      cases n with
      | zero => cases h
      | succ n =>
        dsimp only at h
        rw [if_pos (by rw [l1.len, l2.len])] at h
        exact eqL_same I sb ds l1 l2 h
    | tup es =>
      obtain ⟨a2, ys, ea, e2, l2⟩ := r2.tup sb
      cases ea
      obtain ⟨_, _, pl, _⟩ := I.list (SqL.of e1)
      obtain ⟨_, _, pt, _⟩ := I.tuple e2
      exact absurd rfl (SeqAt.ne_of_list_tuple pl.isList pt)
    | _ =>
      first
        | (obtain ⟨z, _⟩ := RepD.flat (x := _) rfl r2; cases z)
        | cases h
  | .tup ds, n, e, v, b, r1, r2, h => by
    obtain ⟨a, xs, rfl, e1, l1⟩ := r1.tup sb
    unfold eqD at h
    cases e with
    | tup es =>
      obtain ⟨a2, ys, ea, e2, l2⟩ := r2.tup sb
      cases ea
      have := I.tuple_inj e1 e2
      subst this
      cases n with
      | zero => cases h
      | succ n =>
        dsimp only at h
        cases e3 : eqL ds n es with
        | none => rw [e3] at h; cases h
        | some c =>
          rw [e3] at h
          have hc := eqL_same I sb ds l1 l2 e3
          have hl : ds.length = es.length := by rw [l1.len, l2.len]
          cases h
          rw [hc, hl]; simp
    | lst es =>
      obtain ⟨a2, ys, ea, e2, l2⟩ := r2.lst sb
      cases ea
      obtain ⟨_, _, pl, _⟩ := I.list (SqL.of e2)
      obtain ⟨_, _, pt, _⟩ := I.tuple e1
      exact absurd rfl (SeqAt.ne_of_list_tuple pl.isList pt)
    | _ =>
      first
        | (obtain ⟨z, _⟩ := RepD.flat (x := _) rfl r2; cases z)
        | cases h
  | .non, n, e, v, b, r1, r2, h => eqD_flat_same rfl sb r1 r2 h
  | .bl c, n, e, v, b, r1, r2, h => eqD_flat_same rfl sb r1 r2 h
  | .int c, n, e, v, b, r1, r2, h => eqD_flat_same rfl sb r1 r2 h
  | .str c, n, e, v, b, r1, r2, h => eqD_flat_same rfl sb r1 r2 h
  | .dct _, n, e, v, b, r1, r2, h => by unfold eqD at h; cases h
  | .ins _ _, n, e, v, b, r1, r2, h => by unfold eqD at h; cases h
  | .scr _, n, e, v, b, r1, r2, h => by unfold eqD at h; cases h
theorem eqL_same (I : Inv X pins σ H s) (sb : Sub F H) : ∀ (ds : List D) {n : Nat} {es : List D} {vs : List V} {b : Bool}, RepL X.K mg F ds vs → RepL X.K mg F es vs → eqL ds n es = some b → b = true
  | [], n, es, vs, b, r1, r2, h => by unfold eqL at h; cases h; rfl
  | d :: ds, n, [], vs, b, r1, r2, h => by unfold eqL at h; cases h; rfl
  | d :: ds, n, e :: es, vs, b, r1, r2, h => by
    unfold eqL at h
    unfold RepL at r1 r2
    obtain ⟨v, s, rfl, q1, l1⟩ := r1
    obtain ⟨v2, s2, ee, q2, l2⟩ := r2
    cases ee
    cases e1 : eqD d n e with
    | none => rw [e1] at h; cases h
    | some a =>
      rw [e1] at h
      cases e2 : eqL ds n es with
      | none => rw [e2] at h; cases h
      | some c =>
        rw [e2] at h; cases h
        rw [eqD_same I sb d (.inl q1) (.inl q2) e1, eqL_same I sb ds l1 l2 e2]
        rfl
end
/-- a list's, a tuple's items in the heap -/
theorem heapL (I : Inv X pins σ H s) {a : Addr} {xs : List V} (h : H a = some (.lst xs)) : ∃ its : List Value, Vals xs its ∧ s.heap.IsList a its.toArray := by
  obtain ⟨its, r, pl, _⟩ := I.list (SqL.of h)
  exact ⟨its, r, pl.isList⟩
theorem heapT (I : Inv X pins σ H s) {a : Addr} {xs : List V} (h : SqT X.K H a xs) : ∃ its : List Value, Vals xs its ∧ s.heap.IsTuple a its.toArray := by
  obtain ⟨its, r, pl, _⟩ := I.tuple h
  exact ⟨its, r, pl⟩
theorem toA {α : Type} (l : List α) (j : Nat) (h : j < l.toArray.size) : l.toArray[j] = l[j]'(by simpa using h) := by simp
/-- the comparison itself, from the items' -/
theorem rcD (I : Inv X pins σ H s) (sb : Sub F H) (n : Nat)
    (ih : ∀ m, m < n → ∀ {d e : D} {v u : V} {vv uu : Value} {b : Bool}, RepD X.K mg F H d v → RepD X.K mg F H e u → RelV v vv → RelV u uu → eqD d m e = some b → ∀ A : Around, A.units + m + 1 < cLine → SeqAt.EqAt A s vv uu b)
    {d e : D} {v u : V} {vv uu : Value} {b : Bool} (r1 : RepD X.K mg F H d v) (r2 : RepD X.K mg F H e u) (q1 : RelV v vv) (q2 : RelV u uu) (h : eqD d n e = some b) (A : Around) (hu : A.units + n + 1 < cLine) :
    SeqAt.RcAt A s vv uu b ∧ SeqAt.RcNeAt A s vv uu (!b) := by
  have hu0 : A.units < cLine := by omega
  -- the items of two sequences
  have items : ∀ {ds es : List D} {xs ys : List V} {its its2 : List Value} {m : Nat} {c : Bool}, m < n → RepL X.K mg F ds xs → RepL X.K mg F es ys → Vals xs its → Vals ys its2 → eqL ds m es = some c →
      ∃ e : Nat → Bool, (∀ j (h1 : j < its.toArray.size) (h2 : j < its2.toArray.size), SeqAt.EqAt A.in1 s its.toArray[j] its2.toArray[j] (e j)) ∧ (List.range (min its.toArray.size its2.toArray.size)).all e = c := fun {ds es xs ys its its2 m c} hm l1 l2 t1 t2 hq => by
    obtain ⟨e, h1, h2⟩ := eqL_get hq
    refine ⟨e, fun j g1 g2 => ?_, ?_⟩
    · have g1' : j < its.length := by simpa using g1
      have g2' : j < its2.length := by simpa using g2
      obtain ⟨d1, v1, e1, p1, w1⟩ := item_at l1 t1 g1'
      obtain ⟨d2, v2, e2, p2, w2⟩ := item_at l2 t2 g2'
      rw [toA its j g1, toA its2 j g2]
      exact ih m hm (.inl p1) (.inl p2) w1 w2 (h1 j d1 d2 e1 e2) A.in1 (by show A.units + 1 + m + 1 < cLine; omega)
    · rw [← h2, l1.len, l2.len, t1.length, t2.length, List.size_toArray, List.size_toArray]
  -- flat on the left
  have flatL : ∀ {x : V}, fl d = some x → SeqAt.RcAt A s vv uu b ∧ SeqAt.RcNeAt A s vv uu (!b) := fun {x} hx => by
    obtain ⟨rfl, fx⟩ := r1.flat hx
    rw [eqD_flat hx] at h
    have both : ∀ {y : V}, fl e = some y → (fl e).map (eqV v) = some b → SeqAt.RcAt A s vv uu b ∧ SeqAt.RcNeAt A s vv uu (!b) := fun {y} hy h => by
      obtain ⟨rfl, fy⟩ := r2.flat hy
      rw [hy] at h
      cases h
      exact ⟨rcAt_V q1 q2 fx fy, rcNeAt_V q1 q2 fx fy⟩
    cases e with
    | lst es =>
      obtain ⟨a, ys, rfl, e2, l2⟩ := r2.lst sb
      cases h; cases q2
      obtain ⟨its, _, hl⟩ := heapL I e2
      exact ⟨RcAt_flat_list hl hu0 q1 fx, RcNeAt_flat_list hl hu0 q1 fx⟩
    | tup es =>
      obtain ⟨a, ys, rfl, e2, l2⟩ := r2.tup sb
      cases h; cases q2
      obtain ⟨its, _, hl⟩ := heapT I e2
      exact ⟨RcAt_flat_tuple hl hu0 q1 fx, RcNeAt_flat_tuple hl hu0 q1 fx⟩
    | non => exact both rfl h
    | bl c => exact both rfl h
    | int c => exact both rfl h
    | str c => exact both rfl h
    | _ => cases h
  cases d with
  | non => exact flatL rfl
  | bl c => exact flatL rfl
  | int c => exact flatL rfl
  | str c => exact flatL rfl
  | dct _ => unfold eqD at h; cases h
  | ins _ _ => unfold eqD at h; cases h
  | scr _ => unfold eqD at h; cases h
  | lst ds =>
    obtain ⟨a, xs, rfl, e1, l1⟩ := r1.lst sb
    cases q1
    obtain ⟨its, t1, hl⟩ := heapL I e1
    unfold eqD at h
    have other : ∀ {y : V}, fl e = some y → b = false → SeqAt.RcAt A s (.ref a) uu b ∧ SeqAt.RcNeAt A s (.ref a) uu (!b) := fun {y} hy hb => by
      obtain ⟨rfl, fy⟩ := r2.flat hy
      subst hb
      exact ⟨RcAt_list_flat hl hu0 q2 fy, RcNeAt_list_flat hl hu0 q2 fy⟩
    cases e with
    | lst es =>
      obtain ⟨a2, ys, rfl, e2, l2⟩ := r2.lst sb
      cases q2
      obtain ⟨its2, t2, hl2⟩ := heapL I e2
      cases n with
      | zero => cases h
      | succ n =>
        dsimp only at h
        by_cases hlen : ds.length = es.length
        · rw [if_pos hlen] at h
          obtain ⟨ef, he, hc⟩ := items (Nat.lt_succ_self n) l1 l2 t1 t2 h
          have hsz : its.toArray.size = its2.toArray.size := by rw [List.size_toArray, List.size_toArray, ← t1.length, ← t2.length, ← l1.len, ← l2.len, hlen]
          rw [hsz, Nat.min_self] at hc
          rw [← hc, ← hsz]
          exact ⟨SeqAt.RcAt.lists hl hl2 hsz hu0 he, SeqAt.RcNeAt.lists hl hl2 hsz hu0 he⟩
        · rw [if_neg hlen] at h
          cases h
          have hsz : (its.toArray.size != its2.toArray.size) = true := by
            rw [List.size_toArray, List.size_toArray, ← t1.length, ← t2.length, ← l1.len, ← l2.len]
            simpa using hlen
          exact ⟨SeqAt.RcAt.lists_lengths hl hl2 hsz hu0, SeqAt.RcNeAt.lists_lengths hl hl2 hsz hu0⟩
    | tup es =>
      obtain ⟨a2, ys, rfl, e2, l2⟩ := r2.tup sb
      cases q2
      obtain ⟨its2, t2, hl2⟩ := heapT I e2
      cases h
      exact ⟨SeqAt.RcAt.list_tuple hl hl2 hu0, SeqAt.RcNeAt.list_tuple hl hl2 hu0⟩
    | non => cases h; exact other rfl rfl
    | bl c => cases h; exact other rfl rfl
    | int c => cases h; exact other rfl rfl
    | str c => cases h; exact other rfl rfl
    | _ => cases h
  | tup ds =>
    obtain ⟨a, xs, rfl, e1, l1⟩ := r1.tup sb
    cases q1
    obtain ⟨its, t1, hl⟩ := heapT I e1
    unfold eqD at h
    have other : ∀ {y : V}, fl e = some y → b = false → SeqAt.RcAt A s (.ref a) uu b ∧ SeqAt.RcNeAt A s (.ref a) uu (!b) := fun {y} hy hb => by
      obtain ⟨rfl, fy⟩ := r2.flat hy
      subst hb
      exact ⟨RcAt_tuple_flat hl hu0 q2 fy, RcNeAt_tuple_flat hl hu0 q2 fy⟩
    cases e with
    | tup es =>
      obtain ⟨a2, ys, rfl, e2, l2⟩ := r2.tup sb
      cases q2
      obtain ⟨its2, t2, hl2⟩ := heapT I e2
      cases n with
      | zero => cases h
      | succ n =>
        dsimp only at h
        cases e3 : eqL ds n es with
        | none => rw [e3] at h; cases h
        | some c =>
          rw [e3] at h
          cases h
          obtain ⟨ef, he, hc⟩ := items (Nat.lt_succ_self n) l1 l2 t1 t2 e3
          have hs1 : ds.length = its.toArray.size := by rw [List.size_toArray, ← t1.length, ← l1.len]
          have hs2 : es.length = its2.toArray.size := by rw [List.size_toArray, ← t2.length, ← l2.len]
          rw [← hc, hs1, hs2]
          exact ⟨SeqAt.RcAt.tuples hl hl2 hu0 he, SeqAt.RcNeAt.tuples hl hl2 hu0 he⟩
    | lst es =>
      obtain ⟨a2, ys, rfl, e2, l2⟩ := r2.lst sb
      cases q2
      obtain ⟨its2, t2, hl2⟩ := heapL I e2
      cases h
      exact ⟨SeqAt.RcAt.tuple_list hl hl2 hu0, SeqAt.RcNeAt.tuple_list hl hl2 hu0⟩
    | non => cases h; exact other rfl rfl
    | bl c => cases h; exact other rfl rfl
    | int c => cases h; exact other rfl rfl
    | str c => cases h; exact other rfl rfl
    | _ => cases h
theorem refOf {K : PySem.W.Frag} {F H : Hp} {d : D} {v : V} (sb : Sub F H) (r : RepD K mg F H d v) (h : (∃ l, d = .lst l) ∨ ∃ l, d = .tup l) : ∃ a, v = .ref a := by
  rcases h with ⟨l, rfl⟩ | ⟨l, rfl⟩
  · obtain ⟨a, _, e, _⟩ := r.lst sb; exact ⟨a, e⟩
  · obtain ⟨a, _, e, _⟩ := r.tup sb; exact ⟨a, e⟩
theorem eqD_at (I : Inv X pins σ H s) (sb : Sub F H) : ∀ (n : Nat) {d e : D} {v u : V} {vv uu : Value} {b : Bool}, RepD X.K mg F H d v → RepD X.K mg F H e u → RelV v vv → RelV u uu → eqD d n e = some b → ∀ A : Around, A.units + n + 1 < cLine → SeqAt.EqAt A s vv uu b := by
  intro n
  induction n using Nat.strongRecOn with
  | _ n ih =>
    intro d e v u vv uu b r1 r2 q1 q2 h A hu
    have hu0 : A.units < cLine := by omega
    have rc := (rcD I sb n ih r1 r2 q1 q2 h A hu).1
    have refs : ∀ {a c : Addr}, v = .ref a → u = .ref c → SeqAt.EqAt A s vv uu b := fun {a c} e1 e2 => by
      subst e1; subst e2
      cases q1; cases q2
      by_cases hac : a = c
      · subst hac
        have := eqD_same I sb d r1 r2 h
        subst this
        exact SeqAt.EqAt.same _
      · exact SeqAt.EqAt.of_refs hac rc
    have flatL : ∀ {x : V}, fl d = some x → SeqAt.EqAt A s vv uu b := fun {x} hx => by
      obtain ⟨rfl, fx⟩ := r1.flat hx
      rw [eqD_flat hx] at h
      have both : ∀ {y : V}, fl e = some y → (fl e).map (eqV v) = some b → SeqAt.EqAt A s vv uu b := fun {y} hy h => by
        obtain ⟨rfl, fy⟩ := r2.flat hy
        rw [hy] at h
        cases h
        exact eqAt_V q1 q2 fx fy
      cases e with
      | lst es =>
        obtain ⟨a, ys, rfl, e2, l2⟩ := r2.lst sb
        cases h; cases q2
        obtain ⟨its, _, hl⟩ := heapL I e2
        exact EqAt_flat_list hl hu0 q1 fx
      | tup es =>
        obtain ⟨a, ys, rfl, e2, l2⟩ := r2.tup sb
        cases h; cases q2
        obtain ⟨its, _, hl⟩ := heapT I e2
        exact EqAt_flat_tuple hl hu0 q1 fx
      | non => exact both rfl h
      | bl c => exact both rfl h
      | int c => exact both rfl h
      | str c => exact both rfl h
      | _ => cases h
    have flatR : ∀ {a : Addr} {y : V}, ((∃ xs, H a = some (.lst xs)) ∨ ∃ xs, SqT X.K H a xs) → v = .ref a → fl e = some y → b = false → SeqAt.EqAt A s vv uu b := fun {a y} hs ea hy hb => by
      obtain ⟨rfl, fy⟩ := r2.flat hy
      subst ea; subst hb
      cases q1
      rcases hs with ⟨xs, hs⟩ | ⟨xs, hs⟩
      · obtain ⟨its, _, hl⟩ := heapL I hs
        exact EqAt_list_flat hl hu0 q2 fy
      · obtain ⟨its, _, hl⟩ := heapT I hs
        exact EqAt_tuple_flat hl hu0 q2 fy
    cases d with
    | non => exact flatL rfl
    | bl c => exact flatL rfl
    | int c => exact flatL rfl
    | str c => exact flatL rfl
    | dct _ => unfold eqD at h; cases h
    | ins _ _ => unfold eqD at h; cases h
    | scr _ => unfold eqD at h; cases h
    | lst ds =>
      obtain ⟨a, xs, rfl, e1, l1⟩ := id (r1.lst sb)
      unfold eqD at h
      cases e with
      | lst es => obtain ⟨c, ec⟩ := refOf sb r2 (.inl ⟨es, rfl⟩); exact refs rfl ec
      | tup es => obtain ⟨c, ec⟩ := refOf sb r2 (.inr ⟨es, rfl⟩); exact refs rfl ec
      | non => cases h; exact flatR (.inl ⟨xs, e1⟩) rfl rfl rfl
      | bl c => cases h; exact flatR (.inl ⟨xs, e1⟩) rfl rfl rfl
      | int c => cases h; exact flatR (.inl ⟨xs, e1⟩) rfl rfl rfl
      | str c => cases h; exact flatR (.inl ⟨xs, e1⟩) rfl rfl rfl
      | _ => cases h
    | tup ds =>
      obtain ⟨a, xs, rfl, e1, l1⟩ := id (r1.tup sb)
      unfold eqD at h
      cases e with
      | lst es => obtain ⟨c, ec⟩ := refOf sb r2 (.inl ⟨es, rfl⟩); exact refs rfl ec
      | tup es => obtain ⟨c, ec⟩ := refOf sb r2 (.inr ⟨es, rfl⟩); exact refs rfl ec
      | non => cases h; exact flatR (.inr ⟨xs, e1⟩) rfl rfl rfl
      | bl c => cases h; exact flatR (.inr ⟨xs, e1⟩) rfl rfl rfl
      | int c => cases h; exact flatR (.inr ⟨xs, e1⟩) rfl rfl rfl
      | str c => cases h; exact flatR (.inr ⟨xs, e1⟩) rfl rfl rfl
      | _ => cases h
end
def opEq (d e : D) : Option AV := (eqD d 40 e).map fun b => .fz (.bl b)
def opNe (d e : D) : Option AV := (eqD d 40 e).map fun b => .fz (.bl !b)
section
variable {X : Cx}
theorem gives_bl {b : Bs} {ρ : PySem.W.Frag → DL.Env} {σ : St} : True := trivial
theorem gBl {b : Bs} {ρ : DL.Env} {σ : St} {F H : Hp} {k : Bool} {Q : VK} (ok : Ok b ρ F H σ) (h : Gives b ρ σ F (some (.fz (.bl k))) Q) : Q (.bl k) H :=
  h (.bl k) F H ok (Same.refl _) (by show Rep _ _ _ _ _; unfold Rep; rfl)
theorem od_eq (hu : X.A.units + 64 < cLine) : OpD X (compareOp .Eq) opEq := by
  intro b fit pins s σ H x y v u Q I rx ry h
  obtain ⟨F, σ', ρ, dx, dy, ok, r1, r2, g⟩ := h
  unfold opEq at g
  cases e : eqD dx 40 dy with
  | none => rw [e] at g; exact g.elim
  | some k =>
    rw [e] at g
    have r1 : RepD b.K b.mg F H dx x := r1
    have r2 : RepD b.K b.mg F H dy y := r2
    rw [fit.K] at r1 r2
    have z := (rcD I ok.sub 40 (fun m _ => eqD_at I ok.sub m) r1 r2 rx ry e X.A (by omega)).1
    exact z X.prog X.w X.xe _ ⟨.bl k, H, I, rfl, gBl ok g⟩
theorem od_ne (hu : X.A.units + 64 < cLine) : OpD X (compareOp .NotEq) opNe := by
  intro b fit pins s σ H x y v u Q I rx ry h
  obtain ⟨F, σ', ρ, dx, dy, ok, r1, r2, g⟩ := h
  unfold opNe at g
  cases e : eqD dx 40 dy with
  | none => rw [e] at g; exact g.elim
  | some k =>
    rw [e] at g
    have r1 : RepD b.K b.mg F H dx x := r1
    have r2 : RepD b.K b.mg F H dy y := r2
    rw [fit.K] at r1 r2
    have z := (rcD I ok.sub 40 (fun m _ => eqD_at I ok.sub m) r1 r2 rx ry e X.A (by omega)).2
    exact z X.prog X.w X.xe _ ⟨.bl (!k), H, I, rfl, gBl ok g⟩
end
end DL

namespace DL
open PySem PySem.Spec L2

/-! ### operations on data -/
def opAdd : D → D → Option AV
  | .int i, .int j => some (.fz (.int (i + j)))
  | .str a, .str c => if a.length + c.length ≤ sizeLine then some (.fz (.str (a ++ c))) else none
  | .lst a, .lst c => if a.length + c.length ≤ sizeLine then some (.ow (.lst (a ++ c))) else none
  | .tup a, .tup c => if a ≠ [] ∧ c ≠ [] ∧ a.length + c.length ≤ sizeLine then some (.fz (.tup (a ++ c))) else none
  | _, _ => none
def opSub : D → D → Option AV
  | .int i, .int j => some (.fz (.int (i - j)))
  | _, _ => none
instance (i j : Int) : Decidable (CMul i j) := by unfold CMul; exact inferInstance
instance (i j : Int) : Decidable (CDiv i j) := by unfold CDiv; exact inferInstance
instance (i j : Int) : Decidable (CPow i j) := by unfold CPow; exact inferInstance
def repS (x : Str) (n : Nat) : Str := ⟨(List.replicate n x.cps).foldl (· ++ ·) #[]⟩
def opMul : D → D → Option AV
  | .str x, .int k => if 2 ≤ k ∧ k ≤ 1000 ∧ 0 < x.length ∧ x.length ≤ 1000 ∧ (repS x k.toNat).length ≤ sizeLine then some (.fz (.str (repS x k.toNat))) else none
  | .int i, .int j => if CMul i j then some (.fz (.int (i * j))) else none
  | .lst l, .int k => if -(2 ^ 63) ≤ k ∧ k < 2 ^ 63 ∧ l.length * k.toNat ≤ sizeLine then some (.ow (.lst (List.replicate k.toNat l).flatten)) else none
  | _, _ => none
def opMod : D → D → Option AV
  | .int i, .int j => if 0 < j then some (.fz (.int (i % j))) else none
  | _, _ => none
def opDiv : D → D → Option AV
  | .int i, .int j => if CDiv i j then some (.fz (.int (i / j))) else none
  | _, _ => none
def opPow : D → D → Option AV
  | .int i, .int j => if CPow i j then some (.fz (.int (i ^ j.toNat))) else none
  | _, _ => none
def unNeg : D → Option AV
  | .int i => some (.fz (.int (-i)))
  | _ => none
def ltS (a c : Str) : Bool := decide (a.cps.toList < c.cps.toList)
def opLt : D → D → Option AV
  | .int i, .int j => some (.fz (.bl (decide (i < j))))
  | .str i, .str j => some (.fz (.bl (ltS i j)))
  | _, _ => none
def opLe : D → D → Option AV
  | .int i, .int j => some (.fz (.bl (decide (i ≤ j))))
  | .str i, .str j => some (.fz (.bl (!ltS j i)))
  | _, _ => none
def opGt : D → D → Option AV
  | .int i, .int j => some (.fz (.bl (decide (j < i))))
  | .str i, .str j => some (.fz (.bl (ltS j i)))
  | _, _ => none
def opGe : D → D → Option AV
  | .int i, .int j => some (.fz (.bl (decide (j ≤ i))))
  | .str i, .str j => some (.fz (.bl (!ltS i j)))
  | _, _ => none
def isNon : D → Bool
  | .non => true
  | _ => false
def opIs (d e : D) : Option AV := if isNon e then some (.fz (.bl (isNon d))) else none
def opIsNot (d e : D) : Option AV := if isNon e then some (.fz (.bl (!isNon d))) else none
def keyOf : D → Option Key
  | .int i => some (.inl i)
  | .str x => some (.inr x)
  | _ => none
def getK : List (D × D) → Key → Option D
  | [], _ => none
  | (k, d) :: r, x => if keyOf k = some x then some d else getK r x
def putD (kvs : List (D × D)) (k v : D) : List (D × D) :=
  if (kvs.any fun p => decide (keyOf p.1 = keyOf k)) = true then kvs.map (fun p => if keyOf p.1 = keyOf k then (p.1, v) else p) else kvs ++ [(k, v)]
def dropD (kvs : List (D × D)) (k : D) : List (D × D) := kvs.filter fun p => decide (keyOf p.1 ≠ keyOf k)
def hasSub (s x : Str) : Bool := !(Builtin.Str.occurrences s x 0 s.length 1).isEmpty
def anyEq (x : D) : List D → Option Bool
  | [] => some false
  | y :: r => match eqD y 38 x with
    | none => none
    | some true => (anyEq x r).map fun _ => true
    | some false => anyEq x r
def inD : D → D → Option Bool
  | x, .lst ds => anyEq x ds
  | x, .tup ds => anyEq x ds
  | x, .dct kvs => (keyOf x).map fun k => (getK kvs k).isSome
  | .str x, .str s => some (hasSub s x)
  | _, _ => none
def opIn (d e : D) : Option AV := (inD d e).map fun b => .fz (.bl b)
def opNotIn (d e : D) : Option AV := (inD d e).map fun b => .fz (.bl !b)
def ixD : D → D → Option AV
  | .lst l, .int i => (atI l i).map .fz
  | .tup l, .int i => (atI l i).map .fz
  | .scr l, .int i => (atI l i).map fun n => .fz (.int n)
  | .str s, .int i => if s.length ≤ sizeLine then (atI s.cps.toList i).map fun c => .fz (signD c) else none
  | .dct kvs, k => (keyOf k).bind fun x => (getK kvs x).map .fz
  | _, _ => none

section
variable {b : Bs} {ρ : DL.Env} {σ : St} {F H : Hp} {Q : VK}
theorem gFz (ok : Ok b ρ F H σ) {d : D} {v : V} (h : Gives b ρ σ F (some (.fz d)) Q) (r : Rep b.K b.mg F d v) : Q v H := h v F H ok (Same.refl _) r
theorem gInt (ok : Ok b ρ F H σ) {i : Int} (h : Gives b ρ σ F (some (.fz (.int i))) Q) : Q (.int i) H := gFz ok h (by unfold Rep; rfl)
theorem gStr (ok : Ok b ρ F H σ) {i : Str} (h : Gives b ρ σ F (some (.fz (.str i))) Q) : Q (.str i) H := gFz ok h (by unfold Rep; rfl)
theorem gNon (ok : Ok b ρ F H σ) (h : Gives b ρ σ F (some (.fz .non)) Q) : Q .non H := gFz ok h (by unfold Rep; rfl)
/-- a new list -/
theorem gLst (ok : Ok b ρ F H σ) {ds : List D} {vs : List V} (h : Gives b ρ σ F (some (.ow (.lst ds))) Q) (r : RepL b.K b.mg F ds vs) : ∀ p, H p = none → Q (.ref p) (upd H p (.lst vs)) := fun p hp => by
  have g : Grow F H F (upd H p (.lst vs)) := Grow.owned ok.sub hp
  exact h _ F _ (ok.grow g) (Same.refl _) ⟨p, rfl, ok.fresh_F hp, ok.fresh_0 hp, ⟨vs, upd_same, r⟩, ok.apart_new hp, ok.prot_new hp⟩
/-- a new tuple -/
theorem gTup (ok : Ok b ρ F H σ) {ds : List D} {vs : List V} (h : Gives b ρ σ F (some (.fz (.tup ds))) Q) (r : RepL b.K b.mg F ds vs) : ∀ p, H p = none → Q (.ref p) (upd H p (.tup vs)) := fun p hp => by
  have g : Grow F H (upd F p (.tup vs)) (upd H p (.tup vs)) := Grow.frozen ok.sub hp
  refine h _ _ _ (ok.grow g) g.ext ?_
  show Rep _ _ _ _ _
  unfold Rep
  exact ⟨p, vs, rfl, SqT.of upd_same, r.mono g.ext⟩
theorem rInt {i : Int} {v : V} (r : Rd1 b F H (.int i) v) : v = .int i := (RepD.flat (d := .int i) rfl r).1
theorem rStr {i : Str} {v : V} (r : Rd1 b F H (.str i) v) : v = .str i := (RepD.flat (d := .str i) rfl r).1
theorem rBl {i : Bool} {v : V} (r : Rd1 b F H (.bl i) v) : v = .bl i := (RepD.flat (d := .bl i) rfl r).1
theorem rNon {v : V} (r : Rd1 b F H .non v) : v = .non := (RepD.flat (d := .non) rfl r).1
theorem RepL.append {K : PySem.W.Frag} {mg : Str → Option Value} {F : Hp} : ∀ {ds es : List D} {vs us : List V}, RepL K mg F ds vs → RepL K mg F es us → RepL K mg F (ds ++ es) (vs ++ us)
  | [], _, _, _, r, q => by unfold RepL at r; subst r; exact q
  | d :: ds, es, _, us, r, q => by
    unfold RepL at r
    obtain ⟨v, s, rfl, h, l⟩ := r
    show RepL K mg F (d :: (ds ++ es)) (v :: (s ++ us))
    unfold RepL
    exact ⟨v, s ++ us, rfl, h, RepL.append l q⟩
theorem RepL.nil_iff {K : PySem.W.Frag} {mg : Str → Option Value} {F : Hp} {ds : List D} {vs : List V} (r : RepL K mg F ds vs) : ds = [] ↔ vs = [] := by
  have := r.len
  constructor
  · rintro rfl; exact List.eq_nil_of_length_eq_zero this.symm
  · rintro rfl; exact List.eq_nil_of_length_eq_zero this
theorem RepL.rep {K : PySem.W.Frag} {mg : Str → Option Value} {F : Hp} {ds : List D} {vs : List V} (r : RepL K mg F ds vs) : ∀ k : Nat, RepL K mg F (List.replicate k ds).flatten (List.replicate k vs).flatten
  | 0 => by show RepL K mg F [] []; unfold RepL; rfl
  | k + 1 => by
    rw [List.replicate_succ, List.replicate_succ, List.flatten_cons, List.flatten_cons]
    exact r.append (RepL.rep r k)
end
theorem OpR.orD {X : Cx} {f : Value → Value → Sem Value} {r r' : R2} (h : OpR X f r) (h' : OpR X f r') : OpR X f (fun x y H Q => r x y H Q ∨ r' x y H Q) := by
  intro pins s σ H x y v u Q I rx ry q
  rcases q with q | q
  · exact h pins s σ H x y v u Q I rx ry q
  · exact h' pins s σ H x y v u Q I rx ry q
theorem weakO {X : Cx} {f : Value → Value → Sem Value} {r r' : R2} (h : OpR X f r) (i : ∀ x y H Q, r' x y H Q → r x y H Q) : OpR X f r' := fun pins s σ H x y v u Q I rx ry q => h pins s σ H x y v u Q I rx ry (i _ _ _ _ q)
section
variable {X : Cx}
theorem od_add : OpD X (binaryOp .Add) opAdd := by
  intro b fit
  refine weakO (OpR.orD op_add (OpR.orD op_add_str (OpR.orD op_cat op_catT))) fun x y H Q h => ?_
  obtain ⟨F, σ', ρ, dx, dy, ok, r1, r2, g⟩ := h
  unfold opAdd at g
  split at g
  · exact .inl ⟨_, _, rInt r1, rInt r2, gInt ok g⟩
  · split at g
    · rename_i hz
      exact .inr (.inl ⟨_, _, rStr r1, rStr r2, hz, gStr ok g⟩)
    · exact g.elim
  · split at g
    · rename_i hz
      obtain ⟨a, xs, rfl, e1, l1⟩ := RepD.lst ok.sub r1
      obtain ⟨c, ys, rfl, e2, l2⟩ := RepD.lst ok.sub r2
      exact .inr (.inr (.inl ⟨a, c, xs, ys, rfl, rfl, e1, e2, by rw [← l1.len, ← l2.len]; exact hz, gLst ok g (l1.append l2)⟩))
    · exact g.elim
  · split at g
    · rename_i hz
      obtain ⟨h1, h2, hz⟩ := hz
      obtain ⟨a, xs, rfl, e1, l1⟩ := RepD.tup ok.sub r1
      obtain ⟨c, ys, rfl, e2, l2⟩ := RepD.tup ok.sub r2
      rw [fit.K] at e1 e2
      exact .inr (.inr (.inr ⟨a, c, xs, ys, rfl, rfl, e1, e2, fun q => h1 (l1.nil_iff.mpr q), by rw [← l1.len, ← l2.len]; exact hz, fun q => absurd (l2.nil_iff.mpr q) h2, fun _ => gTup ok g (l1.append l2)⟩))
    · exact g.elim
  · exact g.elim
theorem od_sub : OpD X (binaryOp .Sub) opSub := by
  intro b fit
  refine weakO op_sub fun x y H Q ⟨F, σ', ρ, dx, dy, ok, r1, r2, g⟩ => ?_
  unfold opSub at g
  split at g
  · exact ⟨_, _, rInt r1, rInt r2, gInt ok g⟩
  · exact g.elim
theorem op_repS : OpR X (binaryOp .Mult) (fun x y H Q => ∃ z k, x = .str z ∧ y = .int k ∧ 2 ≤ k ∧ k ≤ 1000 ∧ 0 < z.length ∧ z.length ≤ 1000 ∧ (repS z k.toNat).length ≤ sizeLine ∧ Q (.str (repS z k.toNat)) H) := by
  intro pins s σ H x y v u Q I rx ry ⟨z, k, ex, ey, h1, h2, h3, h4, h5, q⟩
  subst ex ey
  obtain ⟨t, rfl⟩ := rx
  obtain ⟨t', rfl⟩ := ry
  refine PySem.P.mul_str ?_ (fun _ _ => ?_) (fun _ _ => ?_) ?_
  · rw [decide_eq_false (by omega), decide_eq_false (by omega)]; rfl
  · have : (1000 : Int) ≤ (2 ^ 63 - 1) / k := (Int.le_ediv_iff_mul_le (by omega)).mpr (by omega)
    omega
  · unfold Builtin.Str.tooLong
    refine decide_eq_false ?_
    have a1 : z.length * k.toNat ≤ 1000 * 1000 := Nat.mul_le_mul h4 (by omega)
    rw [sizeLine_eq]; omega
  · rw [if_neg (by omega), if_neg (by
      have e1 : (k == 1) = false := beq_eq_false_iff_ne.mpr (by omega)
      have e2 : (z.length == 0) = false := beq_eq_false_iff_ne.mpr (by omega)
      rw [e1, e2]; decide)]
    exact ⟨h5, .str _, H, I.tok _, ⟨_, rfl⟩, q⟩
theorem od_mul : OpD X (binaryOp .Mult) opMul := by
  intro b fit
  refine weakO (OpR.orD op_mul (OpR.orD op_rep op_repS)) fun x y H Q ⟨F, σ', ρ, dx, dy, ok, r1, r2, g⟩ => ?_
  unfold opMul at g
  split at g
  · split at g
    · rename_i hz
      exact .inr (.inr ⟨_, _, rStr r1, rInt r2, hz.1, hz.2.1, hz.2.2.1, hz.2.2.2.1, hz.2.2.2.2, gStr ok g⟩)
    · exact g.elim
  · split at g
    · rename_i hz
      exact .inl ⟨_, _, rInt r1, rInt r2, hz, gInt ok g⟩
    · exact g.elim
  · split at g
    · rename_i hz
      obtain ⟨h1, h2, hz⟩ := hz
      obtain ⟨a, xs, rfl, e1, l1⟩ := RepD.lst ok.sub r1
      exact .inr (.inl ⟨a, _, xs, rfl, rInt r2, e1, h1, h2, by rw [← l1.len]; exact hz, gLst ok g (l1.rep _)⟩)
    · exact g.elim
  · exact g.elim
theorem od_mod : OpD X (binaryOp .Mod) opMod := by
  intro b fit
  refine weakO op_mod fun x y H Q ⟨F, σ', ρ, dx, dy, ok, r1, r2, g⟩ => ?_
  unfold opMod at g
  split at g
  · split at g
    · exact ⟨_, _, rInt r1, rInt r2, by assumption, gInt ok g⟩
    · exact g.elim
  · exact g.elim
theorem od_div : OpD X (binaryOp .FloorDiv) opDiv := by
  intro b fit
  refine weakO op_fdiv fun x y H Q ⟨F, σ', ρ, dx, dy, ok, r1, r2, g⟩ => ?_
  unfold opDiv at g
  split at g
  · split at g
    · exact ⟨_, _, rInt r1, rInt r2, by assumption, gInt ok g⟩
    · exact g.elim
  · exact g.elim
theorem od_pow : OpD X (binaryOp .Pow) opPow := by
  intro b fit
  refine weakO op_pow fun x y H Q ⟨F, σ', ρ, dx, dy, ok, r1, r2, g⟩ => ?_
  unfold opPow at g
  split at g
  · split at g
    · exact ⟨_, _, rInt r1, rInt r2, by assumption, gInt ok g⟩
    · exact g.elim
  · exact g.elim
theorem ud_neg : UnD X (unaryOp .USub) unNeg := by
  intro b fit pins s σ H x v Q I rx ⟨F, σ', ρ, dx, ok, r1, g⟩
  unfold unNeg at g
  split at g
  · exact un_neg pins s σ H x v Q I rx ⟨_, rInt r1, gInt ok g⟩
  · exact g.elim
theorem od_lt : OpD X (compareOp .Lt) opLt := by
  intro b fit
  refine weakO (OpR.orD op_lt op_lt_str) fun x y H Q ⟨F, σ', ρ, dx, dy, ok, r1, r2, g⟩ => ?_
  unfold opLt at g
  split at g
  · exact .inl ⟨_, _, rInt r1, rInt r2, gBl ok g⟩
  · exact .inr ⟨_, _, rStr r1, rStr r2, gBl ok g⟩
  · exact g.elim
theorem od_le : OpD X (compareOp .LtE) opLe := by
  intro b fit
  refine weakO (OpR.orD op_le op_le_str) fun x y H Q ⟨F, σ', ρ, dx, dy, ok, r1, r2, g⟩ => ?_
  unfold opLe at g
  split at g
  · exact .inl ⟨_, _, rInt r1, rInt r2, gBl ok g⟩
  · exact .inr ⟨_, _, rStr r1, rStr r2, gBl ok g⟩
  · exact g.elim
theorem od_gt : OpD X (compareOp .Gt) opGt := by
  intro b fit
  refine weakO (OpR.orD op_gt op_gt_str) fun x y H Q ⟨F, σ', ρ, dx, dy, ok, r1, r2, g⟩ => ?_
  unfold opGt at g
  split at g
  · exact .inl ⟨_, _, rInt r1, rInt r2, gBl ok g⟩
  · exact .inr ⟨_, _, rStr r1, rStr r2, gBl ok g⟩
  · exact g.elim
theorem od_ge : OpD X (compareOp .GtE) opGe := by
  intro b fit
  refine weakO (OpR.orD op_ge op_ge_str) fun x y H Q ⟨F, σ', ρ, dx, dy, ok, r1, r2, g⟩ => ?_
  unfold opGe at g
  split at g
  · exact .inl ⟨_, _, rInt r1, rInt r2, gBl ok g⟩
  · exact .inr ⟨_, _, rStr r1, rStr r2, gBl ok g⟩
  · exact g.elim
theorem isNon_rep {b : Bs} {F H : Hp} {d : D} {v : V} (r : Rd1 b F H d v) : decide (v = V.non) = isNon d := by
  rcases r with r | ⟨a, rfl, oa⟩
  · cases d <;> unfold Rep at r <;> first
      | (subst r; rfl)
      | (obtain ⟨a, _, _, _, rfl, _⟩ := r; rfl)
      | (obtain ⟨a, _, rfl, _⟩ := r; rfl)
      | (obtain ⟨a, rfl, _⟩ := r; rfl)
  · cases d <;> first
      | rfl
      | exact oa.elim
theorem od_is : OpD X (compareOp .Is) opIs := by
  intro b fit
  refine weakO op_isN fun x y H Q ⟨F, σ', ρ, dx, dy, ok, r1, r2, g⟩ => ?_
  unfold opIs at g
  split at g
  · rename_i hz
    have q := isNon_rep r2
    rw [hz] at q
    refine ⟨of_decide_eq_true q, ?_⟩
    rw [isNon_rep r1]
    exact gBl ok g
  · exact g.elim
theorem od_isnot : OpD X (compareOp .IsNot) opIsNot := by
  intro b fit
  refine weakO op_notN fun x y H Q ⟨F, σ', ρ, dx, dy, ok, r1, r2, g⟩ => ?_
  unfold opIsNot at g
  split at g
  · rename_i hz
    have q := isNon_rep r2
    rw [hz] at q
    refine ⟨of_decide_eq_true q, ?_⟩
    rw [isNon_rep r1]
    exact gBl ok g
  · exact g.elim
end
end DL

namespace DL
open PySem PySem.Spec L2

/-! ### in, not in -/
section
variable {K : PySem.W.Frag} {mg : Str → Option Value} {F H : Hp} {b : Bs} {ρ : DL.Env} {σ : St}
theorem keyOf_rd {d : D} {y : V} {k : Key} (r : RepD K mg F H d y) (h : keyOf d = some k) : y = kV k := by
  cases d with
  | int i => cases h; exact (RepD.flat (d := .int i) rfl r).1
  | str i => cases h; exact (RepD.flat (d := .str i) rfl r).1
  | _ => cases h
theorem dkey_iff {d : D} {k : Key} : DKey d k ↔ keyOf d = some k := by
  cases d <;> cases k <;> simp [DKey, keyOf, eq_comm]
def ValOk (K : PySem.W.Frag) (mg : Str → Option Value) (F : Hp) : Option D → Option V → Prop
  | some d, o => ∃ v, o = some v ∧ Rep K mg F d v
  | none, o => o = none
theorem RepK.val : ∀ {kvs : List (D × D)} {hk : List (Key × V)} (k : Key), RepK K mg F kvs hk → ValOk K mg F (getK kvs k) (valV hk k)
  | [], _, k, r => by unfold RepK at r; subst r; rfl
  | (c, d) :: kvs, _, k, r => by
    unfold RepK at r
    obtain ⟨kk, v, s, rfl, hk, rv, rr⟩ := r
    have ek := dkey_iff.mp hk
    unfold getK
    rw [ek]
    by_cases h : kk = k
    · subst h
      rw [if_pos rfl]
      exact ⟨v, valV_pos rfl, rv⟩
    · rw [if_neg (fun q => h (Option.some.inj q))]
      have := RepK.val k rr
      rw [valV_neg (by exact h)]
      exact this
theorem RepD.dct {kvs : List (D × D)} {v : V} (sb : Sub F H) (r : RepD K mg F H (.dct kvs) v) : ∃ a hk, v = .ref a ∧ Rd H a (.dK hk) ∧ RepK K mg F kvs hk := by
  rcases r with r | ⟨a, rfl, hk, e, rk⟩
  · unfold Rep at r
    obtain ⟨a, hk, rfl, e, rk⟩ := r
    exact ⟨a, hk, rfl, sb.dK e, rk⟩
  · exact ⟨a, hk, rfl, .inl e, rk⟩
theorem RepD.scr {ns : List Int} {v : V} (sb : Sub F H) (r : RepD K mg F H (.scr ns) v) : ∃ a, v = .ref a ∧ SqL K H a (ns.map V.int) := by
  rcases r with r | ⟨a, rfl, oa⟩
  · unfold Rep at r
    obtain ⟨a, rfl, e⟩ := r
    exact ⟨a, rfl, sb.sqL e⟩
  · exact oa.elim
theorem RepK.len : ∀ {kvs : List (D × D)} {hk : List (Key × V)}, RepK K mg F kvs hk → kvs.length = hk.length
  | [], _, r => by unfold RepK at r; subst r; rfl
  | (c, d) :: kvs, _, r => by
    unfold RepK at r
    obtain ⟨kk, v, s, rfl, hk, rv, rr⟩ := r
    rw [List.length_cons, List.length_cons, RepK.len rr]
end
theorem anyEq_get {x : D} : ∀ {ds : List D} {b : Bool}, anyEq x ds = some b → (∀ (j : Nat) (d : D), ds[j]? = some d → ∃ c, eqD d 38 x = some c) ∧ (b = true ↔ ∃ (j : Nat) (d : D), ds[j]? = some d ∧ eqD d 38 x = some true)
  | [], b, h => by
    cases h
    exact ⟨fun j d e => (by cases e), ⟨fun e => (by cases e), fun ⟨j, d, e, _⟩ => (by cases e)⟩⟩
  | y :: ds, b, h => by
    unfold anyEq at h
    cases e : eqD y 38 x with
    | none => rw [e] at h; cases h
    | some c =>
      rw [e] at h
      cases c with
      | true =>
        dsimp only at h
        cases e2 : anyEq x ds with
        | none => rw [e2] at h; cases h
        | some c2 =>
          rw [e2] at h
          cases h
          refine ⟨fun j d ej => ?_, ⟨fun _ => ⟨0, y, rfl, e⟩, fun _ => rfl⟩⟩
          cases j with
          | zero => cases ej; exact ⟨_, e⟩
          | succ j => exact (anyEq_get e2).1 j d ej
      | false =>
        dsimp only at h
        obtain ⟨h1, h2⟩ := anyEq_get h
        refine ⟨fun j d ej => ?_, ⟨fun q => ?_, fun ⟨j, d, ej, q⟩ => ?_⟩⟩
        · cases j with
          | zero => cases ej; exact ⟨_, e⟩
          | succ j => exact h1 j d ej
        · obtain ⟨j, d, ej, q⟩ := h2.mp q
          exact ⟨j + 1, d, ej, q⟩
        · cases j with
          | zero => cases ej; rw [e] at q; cases q
          | succ j => exact h2.mpr ⟨j, d, ej, q⟩
open Classical in
/-- which item is equal, by the items' values -/
noncomputable def hitOf (its : List Value) (ds : List D) (x : D) (u : Value) : Bool := decide (∃ (j : Nat) (d : D), its[j]? = some u ∧ ds[j]? = some d ∧ eqD d 38 x = some true)
open Classical in
theorem hitOf_iff {its : List Value} {ds : List D} {x : D} {u : Value} : hitOf its ds x u = true ↔ ∃ (j : Nat) (d : D), its[j]? = some u ∧ ds[j]? = some d ∧ eqD d 38 x = some true := by
  unfold hitOf
  exact decide_eq_true_iff
section
variable {X : Cx} {mg : Str → Option Value} {F H : Hp} {pins : List (Addr × Obj)} {σ : St} {s : Shared}
theorem item_at' {K : PySem.W.Frag} {ds : List D} {xs : List V} {its : List Value} (l : RepL K mg F ds xs) (r : Vals xs its) {j : Nat} {u : Value} (h : its[j]? = some u) : ∃ d v, ds[j]? = some d ∧ Rep K mg F d v ∧ RelV v u := by
  have hj : j < its.length := (List.getElem?_eq_some_iff.mp h).1
  obtain ⟨d, v, e1, p1, w1⟩ := item_at l r hj
  have : its[j] = u := (List.getElem?_eq_some_iff.mp h).2
  rw [this] at w1
  exact ⟨d, v, e1, p1, w1⟩
theorem hit_any {ds : List D} {its : List Value} {x : D} {b : Bool} (hl : ds.length = its.length) (h : anyEq x ds = some b) : its.any (hitOf its ds x) = b := by
  obtain ⟨h1, h2⟩ := anyEq_get h
  cases b with
  | true =>
    obtain ⟨j, d, e, q⟩ := h2.mp rfl
    have hj : j < its.length := by rw [← hl]; exact (List.getElem?_eq_some_iff.mp e).1
    exact List.any_eq_true.mpr ⟨its[j], List.getElem_mem hj, hitOf_iff.mpr ⟨j, d, List.getElem?_eq_getElem hj, e, q⟩⟩
  | false =>
    refine Bool.eq_false_iff.mpr fun q => ?_
    obtain ⟨u, _, hu⟩ := List.any_eq_true.mp q
    obtain ⟨j, d, _, e, q⟩ := hitOf_iff.mp hu
    have := h2.mpr ⟨j, d, e, q⟩
    cases this
theorem hit_at (I : Inv X pins σ H s) (sb : Sub F H) {ds : List D} {xs : List V} {its : List Value} (l : RepL X.K mg F ds xs) (r : Vals xs its) {x : D} {v : V} {vv : Value} {b : Bool} (rx : RepD X.K mg F H x v) (q : RelV v vv) (h : anyEq x ds = some b) {A : Around} (hu : A.units + 64 < cLine) :
    ∀ u ∈ its, SeqAt.EqAt A.in1 s u vv (hitOf its ds x u) := by
  intro u hm
  have hu' : A.in1.units + 38 + 1 < cLine := by show A.units + 1 + 38 + 1 < cLine; omega
  by_cases hh : ∃ (j : Nat) (d : D), its[j]? = some u ∧ ds[j]? = some d ∧ eqD d 38 x = some true
  · have e : hitOf its ds x u = true := hitOf_iff.mpr hh
    rw [e]
    obtain ⟨j, d, e1, e2, e3⟩ := hh
    obtain ⟨d', v', e4, p, w⟩ := item_at' l r e1
    rw [e2] at e4; cases e4
    exact eqD_at I sb 38 (.inl p) rx w q e3 _ hu'
  · have e : hitOf its ds x u = false := Bool.eq_false_iff.mpr fun q => hh (hitOf_iff.mp q)
    rw [e]
    obtain ⟨j, hj, ej⟩ := List.mem_iff_getElem.mp hm
    have e1 : its[j]? = some u := by rw [List.getElem?_eq_getElem hj, ej]
    obtain ⟨d', v', e4, p, w⟩ := item_at' l r e1
    obtain ⟨c, ec⟩ := (anyEq_get h).1 j d' e4
    cases c with
    | true => exact absurd ⟨j, d', e1, e4, ec⟩ hh
    | false => exact eqD_at I sb 38 (.inl p) rx w q ec _ hu'
end
section
variable {X : Cx}
theorem od_in (hu : X.A.units + 64 < cLine) : OpD X (compareOp .In) opIn := by
  intro b fit pins s σ H x y v u Q I rx ry h
  obtain ⟨F, σ', ρ, dx, dy, ok, r1, r2, g⟩ := h
  unfold opIn at g
  cases e : inD dx dy with
  | none => rw [e] at g; exact g.elim
  | some k =>
    rw [e] at g
    have q : Q (.bl k) H := gBl ok g
    have r1 : RepD b.K b.mg F H dx x := r1
    have r2 : RepD b.K b.mg F H dy y := r2
    have r1' := r1
    rw [fit.K] at r1'
    cases dy with
    | lst ds =>
      obtain ⟨a, xs, rfl, e1, l1⟩ := RepD.lst ok.sub r2
      cases ry
      rw [fit.K] at l1
      obtain ⟨its, t1, hl⟩ := heapL I e1
      have e : anyEq dx ds = some k := by cases dx <;> exact e
      refine SeqAt.in_listAt (hitOf its ds dx) hl (fun w hw => hit_at I ok.sub l1 t1 r1' rx e hu w (by simpa using hw)) ⟨.bl k, H, I, ?_, q⟩
      rw [show its.toArray.any (hitOf its ds dx) = its.any (hitOf its ds dx) by simp, hit_any (l1.len.trans t1.length) e]
      rfl
    | tup ds =>
      obtain ⟨a, xs, rfl, e1, l1⟩ := RepD.tup ok.sub r2
      cases ry
      rw [fit.K] at l1 e1
      obtain ⟨its, t1, hl⟩ := heapT I e1
      have e : anyEq dx ds = some k := by cases dx <;> exact e
      refine SeqAt.in_tupleAt (hitOf its ds dx) hl (fun w hw => hit_at I ok.sub l1 t1 r1' rx e hu w (by simpa using hw)) ⟨.bl k, H, I, ?_, q⟩
      rw [show its.toArray.any (hitOf its ds dx) = its.any (hitOf its ds dx) by simp, hit_any (l1.len.trans t1.length) e]
      rfl
    | dct kvs =>
      obtain ⟨a, hk, rfl, e1, l1⟩ := RepD.dct ok.sub r2
      cases ry
      have e : (keyOf dx).map (fun k => (getK kvs k).isSome) = some k := by cases dx <;> exact e
      cases ek : keyOf dx with
      | none => rw [ek] at e; cases e
      | some kk =>
        rw [ek] at e
        cases e
        have ex := keyOf_rd r1 ek
        subst ex
        have hv := RepK.val kk l1
        refine d_in (o := valV hk kk) (by omega) I (.inl ⟨hk, kk, e1, rfl, rfl⟩) rx fun s' I' => ⟨.bl _, H, I', rfl, ?_⟩
        dsimp only at q
        cases eg : getK kvs kk with
        | none => rw [eg] at hv q; rw [hv]; exact q
        | some d =>
          rw [eg] at hv q
          obtain ⟨v, ev, _⟩ := hv
          rw [ev]; exact q
    | str t =>
      cases dx with
      | str z =>
        cases e
        exact op_in_str pins s σ H x y v u Q I rx ry ⟨_, _, rStr r1, rStr r2, q⟩
      | _ => cases e
    | _ => cases dx <;> cases e
theorem od_notin (hu : X.A.units + 64 < cLine) : OpD X (compareOp .NotIn) opNotIn := by
  intro b fit pins s σ H x y v u Q I rx ry h
  obtain ⟨F, σ', ρ, dx, dy, ok, r1, r2, g⟩ := h
  unfold opNotIn at g
  cases e : inD dx dy with
  | none => rw [e] at g; exact g.elim
  | some k =>
    rw [e] at g
    have q : Q (.bl (!k)) H := gBl ok g
    have r1 : RepD b.K b.mg F H dx x := r1
    have r2 : RepD b.K b.mg F H dy y := r2
    have r1' := r1
    rw [fit.K] at r1'
    cases dy with
    | lst ds =>
      obtain ⟨a, xs, rfl, e1, l1⟩ := RepD.lst ok.sub r2
      cases ry
      rw [fit.K] at l1
      obtain ⟨its, t1, hl⟩ := heapL I e1
      have e : anyEq dx ds = some k := by cases dx <;> exact e
      refine SeqAt.notIn_listAt (hitOf its ds dx) hl (fun w hw => hit_at I ok.sub l1 t1 r1' rx e hu w (by simpa using hw)) ⟨.bl (!k), H, I, ?_, q⟩
      rw [show its.toArray.any (hitOf its ds dx) = its.any (hitOf its ds dx) by simp, hit_any (l1.len.trans t1.length) e]
      rfl
    | tup ds =>
      obtain ⟨a, xs, rfl, e1, l1⟩ := RepD.tup ok.sub r2
      cases ry
      rw [fit.K] at l1 e1
      obtain ⟨its, t1, hl⟩ := heapT I e1
      have e : anyEq dx ds = some k := by cases dx <;> exact e
      refine SeqAt.notIn_tupleAt (hitOf its ds dx) hl (fun w hw => hit_at I ok.sub l1 t1 r1' rx e hu w (by simpa using hw)) ⟨.bl (!k), H, I, ?_, q⟩
      rw [show its.toArray.any (hitOf its ds dx) = its.any (hitOf its ds dx) by simp, hit_any (l1.len.trans t1.length) e]
      rfl
    | dct kvs =>
      obtain ⟨a, hk, rfl, e1, l1⟩ := RepD.dct ok.sub r2
      cases ry
      have e : (keyOf dx).map (fun k => (getK kvs k).isSome) = some k := by cases dx <;> exact e
      cases ek : keyOf dx with
      | none => rw [ek] at e; cases e
      | some kk =>
        rw [ek] at e
        cases e
        have ex := keyOf_rd r1 ek
        subst ex
        have hv := RepK.val kk l1
        refine d_notIn (o := valV hk kk) (by omega) I (.inl ⟨hk, kk, e1, rfl, rfl⟩) rx fun s' I' => ⟨.bl _, H, I', rfl, ?_⟩
        dsimp only at q
        cases eg : getK kvs kk with
        | none => rw [eg] at hv q; rw [hv]; exact q
        | some d =>
          rw [eg] at hv q
          obtain ⟨v, ev, _⟩ := hv
          rw [ev]; exact q
    | str t =>
      cases dx with
      | str z =>
        cases e
        exact op_notin_str pins s σ H x y v u Q I rx ry ⟨_, _, rStr r1, rStr r2, q⟩
      | _ => cases e
    | _ => cases dx <;> cases e

/-! ### subscripts -/
abbrev IxD (X : Cx) (f : D → D → Option AV) : Prop := ∀ b, Fit X b → IxR X (rD2 b f)
theorem atI_map {α β : Type} (g : α → β) (l : List α) (i : Int) : atI (l.map g) i = (atI l i).map g := by
  unfold atI
  rw [List.length_map]
  cases ixN l.length i with
  | none => rfl
  | some j => simp
theorem RepL.atI {K : PySem.W.Frag} {mg : Str → Option Value} {F : Hp} {ds : List D} {vs : List V} (r : RepL K mg F ds vs) {i : Int} {d : D} (h : L2.atI ds i = some d) : ∃ v, L2.atI vs i = some v ∧ Rep K mg F d v := by
  unfold L2.atI at h ⊢
  rw [← r.len]
  cases e : ixN ds.length i with
  | none => rw [e] at h; cases h
  | some j =>
    rw [e] at h
    exact r.get h
theorem ix_dict (hu : X.A.units + 1 < cLine) : IxR X (fun x y H Q => ∃ a v, x = .ref a ∧ DGet H a y (some v) ∧ Q v H) := by
  intro value slice pins s σ H x y v u Q I rx ry h hs
  obtain ⟨a, w, rfl, g, q⟩ := h
  cases rx
  exact PyProof.Rows.tail_any (dict_typeIs I g) PySem.F.slot_dict_getitem.lookup (d_getItem hu I g ry fun w' s3 I3 rw' => ⟨w, H, I3, rw', q⟩) hs
theorem weakIx {r r' : R2} (h : IxR X r) (i : ∀ x y H Q, r' x y H Q → r x y H Q) : IxR X r' := fun value slice pins s σ H x y v u Q I rx ry q => h value slice pins s σ H x y v u Q I rx ry (i _ _ _ _ q)
theorem id_ix (hu : X.A.units + 64 < cLine) : IxD X ixD := by
  intro b fit
  refine weakIx (IxR.or ix_seq (ix_dict (by omega))) fun x y H Q ⟨F, σ', ρ, dx, dy, ok, r1, r2, g⟩ => ?_
  unfold ixD at g
  split at g
  · rename_i l i
    obtain ⟨a, xs, rfl, e1, l1⟩ := RepD.lst ok.sub r1
    cases e : L2.atI l i with
    | none => rw [e] at g; exact g.elim
    | some d =>
      rw [e] at g
      obtain ⟨v, ev, rv⟩ := l1.atI e
      exact .inl (.inl ⟨a, xs, i, v, rfl, rInt r2, SqL.of e1, ev, gFz ok g rv⟩)
  · rename_i l i
    obtain ⟨a, xs, rfl, e1, l1⟩ := RepD.tup ok.sub r1
    rw [fit.K] at e1
    cases e : L2.atI l i with
    | none => rw [e] at g; exact g.elim
    | some d =>
      rw [e] at g
      obtain ⟨v, ev, rv⟩ := l1.atI e
      exact .inl (.inr (.inl ⟨a, xs, i, v, rfl, rInt r2, e1, ev, gFz ok g rv⟩))
  · rename_i l i
    obtain ⟨a, rfl, e1⟩ := RepD.scr ok.sub r1
    rw [fit.K] at e1
    cases e : L2.atI l i with
    | none => rw [e] at g; exact g.elim
    | some d =>
      rw [e] at g
      exact .inl (.inl ⟨a, _, i, .int d, rfl, rInt r2, e1, by rw [atI_map, e]; rfl, gInt ok g⟩)
  · rename_i z i
    split at g
    · rename_i hz
      cases e : L2.atI z.cps.toList i with
      | none => rw [e] at g; exact g.elim
      | some c =>
        rw [e] at g
        exact .inl (.inr (.inr ⟨z, i, c, rStr r1, rInt r2, hz, e, gStr ok g⟩))
    · exact g.elim
  · rename_i kvs
    obtain ⟨a, hk, rfl, e1, l1⟩ := RepD.dct ok.sub r1
    cases ek : keyOf dy with
    | none => rw [ek] at g; exact g.elim
    | some kk =>
      rw [ek] at g
      have ex := keyOf_rd r2 ek
      subst ex
      have hv := RepK.val kk l1
      change Gives b ρ σ' F ((getK kvs kk).map .fz) Q at g
      cases eg : getK kvs kk with
      | none => rw [eg] at g; exact g.elim
      | some d =>
        rw [eg] at hv g
        obtain ⟨v, ev, rv⟩ := hv
        exact .inr ⟨a, v, rfl, .inl ⟨hk, kk, e1, rfl, ev.symm⟩, gFz ok g rv⟩
  · exact g.elim
variable {b : Bs} {W : WX} {pos : Pos}
theorem de_sub {a c : Expr} {φ ψ : M AV} (fit : Fit X b) (hu : X.A.units + 64 < cLine) (ha : PE X a (tE b W φ)) (hc : PE X c (tE b W ψ)) (hs : PlainIx c := by exact fun _ _ => rfl) : PE X (.Subscript a c pos) (tE b W (mOp ixD φ ψ)) := by
  refine weakE (pe_ix (id_ix hu b fit) ha hc hs) fun σ H Q ⟨F, ρ, k, h⟩ => ?_
  exact run2 k h

/-! ### slices -/
def slD (d : D) (lo hi : Option Int) : Option AV := match d with
  | .lst l => some (.ow (.lst ((l.drop (HT.sIx l.length 0 lo)).take (HT.sIx l.length l.length hi - HT.sIx l.length 0 lo))))
  | .tup l => some (.fz (.tup ((l.drop (HT.sIx l.length 0 lo)).take (HT.sIx l.length l.length hi - HT.sIx l.length 0 lo))))
  | .str z => if z.length ≤ sizeLine then some (.fz (.str (cutS z lo hi))) else none
  | _ => none
def edgeD : D → M (Option Int)
  | .int i => M.ret (some i)
  | _ => M.stuck
/-- an edge of a slice -/
def mEdge : Option (M AV) → M (Option Int)
  | none => M.ret none
  | some φ => φ.bnd fun a => (rd a).bnd edgeD
def mSl (φ : M AV) (lo hi : Option (M AV)) : M AV := φ.bnd fun a => (frz a).bnd fun d => (mEdge lo).bnd fun l => (mEdge hi).bnd fun u => lift (slD d l u)
theorem RepL.drop {K : PySem.W.Frag} {mg : Str → Option Value} {F : Hp} : ∀ (n : Nat) {ds : List D} {vs : List V}, RepL K mg F ds vs → RepL K mg F (ds.drop n) (vs.drop n)
  | 0, _, _, r => r
  | n + 1, [], _, r => by unfold RepL at r; subst r; show RepL K mg F [] []; unfold RepL; rfl
  | n + 1, d :: ds, _, r => by
    unfold RepL at r
    obtain ⟨v, s, rfl, _, l⟩ := r
    exact RepL.drop n l
theorem RepL.take {K : PySem.W.Frag} {mg : Str → Option Value} {F : Hp} : ∀ (n : Nat) {ds : List D} {vs : List V}, RepL K mg F ds vs → RepL K mg F (ds.take n) (vs.take n)
  | 0, ds, vs, r => by show RepL K mg F [] []; unfold RepL; rfl
  | n + 1, [], _, r => by unfold RepL at r; subst r; show RepL K mg F [] []; unfold RepL; rfl
  | n + 1, d :: ds, _, r => by
    unfold RepL at r
    obtain ⟨v, s, rfl, q, l⟩ := r
    show RepL K mg F (d :: ds.take n) (v :: s.take n)
    unfold RepL
    exact ⟨v, s.take n, rfl, q, RepL.take n l⟩
theorem rd_ints {F : Hp} {d : D} {σ : St} {ρ : DL.Env} {Q : Option Int → DL.Env → Hp → Hp → Prop} (h : After b W σ F (edgeD d ρ) Q) : ∃ i, d = .int i := by
  cases d with
  | int i => exact ⟨i, rfl⟩
  | _ => exact h.elim
/-- an edge's reading -/
def tO (b : Bs) (W : WX) (φ : M (Option Int)) : TO := fun σ H Q => ∃ F ρ, Ok b ρ F H σ ∧ After b W σ F (φ ρ) fun o ρ' F' H' => Q o H'
theorem do_none : PO X none (tO b W (mEdge none)) := ⟨fun pins s σ H Q I ⟨F, ρ, k, h⟩ => po_none.run pins s σ H Q I (h F H k (Same.refl _))⟩
theorem do_some {e : Expr} {φ : M AV} (he : PE X e (tE b W φ)) : PO X (some e) (tO b W (mEdge (some φ))) := ⟨fun pins s σ H Q I ⟨F, ρ, k, h⟩ => (po_some he).run pins s σ H Q I (by
  show tE b W φ σ H fun x H1 => ∃ i, x = .int i ∧ Q (some i) H1
  refine runE k h fun av x ρ1 F1 H1 k1 s1 r1 h1 => ?_
  obtain ⟨d, q1, h2⟩ := h1.read k1 r1
  obtain ⟨i, rfl⟩ := rd_ints h2
  exact ⟨i, rInt q1, h2 F1 H1 k1 (Same.refl _)⟩)⟩
theorem runO {α : Type} {φ : M (Option Int)} {f : Option Int → M α} {σ : St} {H F : Hp} {ρ : DL.Env} {Q : α → DL.Env → Hp → Hp → Prop} {R : Option Int → Hp → Prop} (k : Ok b ρ F H σ) (h : After b W σ F (φ.bnd f ρ) Q)
    (i : ∀ c ρ1 F1 H1, Ok b ρ1 F1 H1 σ → Same F F1 → After b W σ F1 (f c ρ1) Q → R c H1) : tO b W φ σ H R :=
  ⟨F, ρ, k, h.bnd.imp fun av ρ' F' H' k' s q => i av ρ' F' H' k' s q.2⟩
theorem de_slice {e : Expr} {lo hi : Option Expr} {p2 : Pos} {φ : M AV} {l u : Option (M AV)} (fit : Fit X b) (he : PE X e (tE b W φ)) (hl : PO X lo (tO b W (mEdge l))) (hh : PO X hi (tO b W (mEdge u))) :
    PE X (.Subscript e (.Slice lo hi none p2) pos) (tE b W (mSl φ l u)) := by
  refine weakE (pe_slice (SlR.or sl_list (SlR.or sl_tupA sl_str)) he hl hh) fun σ H Q ⟨F, ρ, k, h⟩ => ?_
  refine runE k h fun av x ρ1 F1 H1 k1 s1 r1 h1 => ?_
  obtain ⟨d, ρ2, F2, k2, s2, q2, h2⟩ := After.froze k1 r1 h1
  refine runO k2 h2 fun lo ρ3 F3 H3 k3 s3 h3 => ?_
  refine runO k3 h3 fun hi ρ4 F4 H4 k4 s4 h4 => ?_
  have q4 := q2.mono (s3.trans s4)
  have g := h4.gives
  unfold slD at g
  split at g
  · unfold Rep at q4
    obtain ⟨a, xs, rfl, e1, l1⟩ := q4
    refine .inl ⟨a, xs, rfl, SqL.of (k4.sub.lst e1), ?_⟩
    have := gLst k4 g (vs := cutV xs lo hi) (by unfold cutV; rw [← l1.len]; exact (l1.drop _).take _)
    exact this
  · rename_i l
    have q4' := q4
    unfold Rep at q4
    obtain ⟨a, xs, rfl, e1, l1⟩ := q4
    rw [fit.K] at e1
    refine .inr (.inl ⟨a, xs, rfl, k4.sub.sqT e1, fun hw => ?_, fun _ => ?_⟩)
    · rw [← l1.len] at hw
      rw [hw.1, hw.2] at g
      have : (l.drop 0).take (l.length - 0) = l := by simp
      rw [this] at g
      exact gFz k4 g q4'
    · exact gTup k4 g (vs := cutV xs lo hi) (by unfold cutV; rw [← l1.len]; exact (l1.drop _).take _)
  · split at g
    · rename_i hz
      unfold Rep at q4
      subst q4
      exact .inr (.inr ⟨_, rfl, hz, gStr k4 g⟩)
    · exact g.elim
  · exact g.elim
end
end DL

namespace DL
open PySem PySem.Spec L2

/-! ### built-ins -/
def fLen : List D → Option AV
  | [.str z] => if z.length ≤ sizeLine then some (.fz (.int z.length)) else none
  | [.lst l] => some (.fz (.int l.length))
  | [.tup l] => some (.fz (.int l.length))
  | [.scr l] => some (.fz (.int l.length))
  | [.dct l] => some (.fz (.int l.length))
  | _ => none
def fAbs : List D → Option AV
  | [.int i] => some (.fz (.int (if i < 0 then -i else i)))
  | _ => none
def fMax2 : List D → Option AV
  | [.int i, .int j] => some (.fz (.int (if j > i then j else i)))
  | _ => none
def fMin2 : List D → Option AV
  | [.int i, .int j] => some (.fz (.int (if j < i then j else i)))
  | _ => none
def fInt : List D → Option AV
  | [.int i] => some (.fz (.int i))
  | [.bl k] => some (.fz (.int (if k then 1 else 0)))
  | [.str a] => if a.length ≤ 640 then (PySem.intText? a).map fun n => .fz (.int n) else none
  | _ => none
def fStr : List D → Option AV
  | [.int i] => if i.natAbs.log2 < 1920 then some (.fz (.str (toString i))) else none
  | [.str a] => some (.fz (.str a))
  | _ => none
def blsOf : List D → Option (List Bool)
  | [] => some []
  | .bl b :: r => (blsOf r).map fun l => b :: l
  | _ => none
def strsOf : List D → Option (List Str)
  | [] => some []
  | .str b :: r => (strsOf r).map fun l => b :: l
  | _ => none
def intsOf : List D → Option (List Int)
  | [] => some []
  | .int b :: r => (intsOf r).map fun l => b :: l
  | _ => none
def fAll : List D → Option AV
  | [.lst l] => (blsOf l).map fun bs => .fz (.bl (bs.all id))
  | _ => none
def fAny : List D → Option AV
  | [.lst l] => (blsOf l).map fun bs => .fz (.bl (bs.any id))
  | _ => none
def fTuple : List D → Option AV
  | [.lst l] => some (.fz (.tup l))
  | [.tup l] => some (.fz (.tup l))
  | _ => none
def fList : List D → Option AV
  | [.lst l] => some (.ow (.lst l))
  | [.tup l] => some (.ow (.lst l))
  | [.dct l] => some (.ow (.lst (l.map (·.1))))
  | _ => none
def pairsD : List D → Option (List (D × D))
  | [] => some []
  | .tup [k, v] :: r => if (keyOf k).isSome then (pairsD r).map fun l => (k, v) :: l else none
  | _ => none
def mergeD (kvs more : List (D × D)) : List (D × D) := more.foldl (fun acc p => putD acc p.1 p.2) kvs
def fDict : List D → Option AV
  | [.lst l] => (pairsD l).map fun ps => .ow (.dct (mergeD [] ps))
  | [.dct l] => some (.ow (.dct l))
  | _ => none
def insS (x : Str) : List Str → List Str
  | [] => [x]
  | y :: r => if ltS y x then y :: insS x r else x :: y :: r
def sortS : List Str → List Str
  | [] => []
  | x :: r => insS x (sortS r)
def insI (x : Int) : List Int → List Int
  | [] => [x]
  | y :: r => if y < x then y :: insI x r else x :: y :: r
def sortI : List Int → List Int
  | [] => []
  | x :: r => insI x (sortI r)
def sortFlat (l : List D) : Option (List D) := match strsOf l with
  | some ss => if ss.length < 64 then some ((sortS ss).map .str) else none
  | none => match intsOf l with
    | some is => if is.length < 64 then some ((sortI is).map .int) else none
    | none => none
def fSorted : List D → Option AV
  | [.lst l] => (sortFlat l).map fun l => .ow (.lst l)
  | [.dct l] => (sortFlat (l.map (·.1))).map fun l => .ow (.lst l)
  | _ => none
/-- of one list of ints, not empty -/
def maxI : Int → List Int → Int
  | a, [] => a
  | a, x :: r => maxI (if a < x then x else a) r
def minI : Int → List Int → Int
  | a, [] => a
  | a, x :: r => minI (if x < a then x else a) r
def fMaxL : List D → Option AV
  | [.lst l] => match intsOf l with
    | some (x :: r) => some (.fz (.int (maxI x r)))
    | _ => none
  | _ => none
def fMinL : List D → Option AV
  | [.lst l] => match intsOf l with
    | some (x :: r) => some (.fz (.int (minI x r)))
    | _ => none
  | _ => none
def fMax (l : List D) : Option AV := match l with
  | [_] => fMaxL l
  | _ => fMax2 l
def fMin (l : List D) : Option AV := match l with
  | [_] => fMinL l
  | _ => fMin2 l

/-! sorting is unique -/
theorem ltS_trans {a b c : Str} (h1 : ltS b a = false) (h2 : ltS c b = false) : ltS c a = false := by
  unfold ltS at *
  have h1 := of_decide_eq_false h1
  have h2 := of_decide_eq_false h2
  refine decide_eq_false fun h => ?_
  have l1 : a.cps.toList ≤ b.cps.toList := List.not_lt.mp h1
  have l2 : b.cps.toList ≤ c.cps.toList := List.not_lt.mp h2
  exact (List.not_lt.mpr (List.le_trans l1 l2)) h
theorem ltS_anti {a b : Str} (h1 : ltS b a = false) (h2 : ltS a b = false) : a = b := by
  unfold ltS at *
  have l1 : a.cps.toList ≤ b.cps.toList := List.not_lt.mp (of_decide_eq_false h1)
  have l2 : b.cps.toList ≤ a.cps.toList := List.not_lt.mp (of_decide_eq_false h2)
  have e := List.le_antisymm l1 l2
  obtain ⟨⟨x⟩⟩ := a
  obtain ⟨⟨y⟩⟩ := b
  exact congrArg (fun l => (⟨⟨l⟩⟩ : Str)) e
theorem ltS_asym {a b : Str} (h : ltS a b = true) : ltS b a = false := by
  unfold ltS at *
  exact decide_eq_false (List.not_lt.mpr (List.le_of_lt (of_decide_eq_true h)))
theorem insS_perm (x : Str) : ∀ l : List Str, (insS x l).Perm (x :: l)
  | [] => List.Perm.refl _
  | y :: r => by
    unfold insS
    split
    · exact ((insS_perm x r).cons y).trans (List.Perm.swap x y r)
    · exact List.Perm.refl _
theorem sortS_perm : ∀ l : List Str, (sortS l).Perm l
  | [] => List.Perm.refl _
  | x :: r => (insS_perm x _).trans ((sortS_perm r).cons x)
abbrev leS (a b : Str) : Prop := ltS b a = false
theorem insS_sorted (x : Str) : ∀ {l : List Str}, l.Pairwise leS → (insS x l).Pairwise leS
  | [], _ => List.pairwise_singleton _ _
  | y :: r, h => by
    unfold insS
    have h' := List.pairwise_cons.mp h
    split
    · rename_i hyx
      refine List.pairwise_cons.mpr ⟨fun z hz => ?_, insS_sorted x h'.2⟩
      rcases List.mem_cons.mp ((insS_perm x r).mem_iff.mp hz) with rfl | hz
      · exact ltS_asym hyx
      · exact h'.1 z hz
    · rename_i hyx
      have hyx : ltS y x = false := by simpa using hyx
      refine List.pairwise_cons.mpr ⟨fun z hz => ?_, h⟩
      rcases List.mem_cons.mp hz with rfl | hz
      · exact hyx
      · exact ltS_trans hyx (h'.1 z hz)
theorem sortS_sorted : ∀ l : List Str, (sortS l).Pairwise leS
  | [] => List.Pairwise.nil
  | x :: r => insS_sorted x (sortS_sorted r)
theorem rising_pair : ∀ {l : List Str} {x : Str}, PyProof.Rows.risingS x l = true → (x :: l).Pairwise leS
  | [], x, _ => List.pairwise_singleton _ _
  | y :: r, x, h => by
    unfold PyProof.Rows.risingS at h
    rw [Bool.and_eq_true] at h
    have h1 : ltS y x = false := by
      have := h.1
      rw [PyProof.Rows.ltCps_eq] at this
      simpa [ltS] using this
    have ih := rising_pair h.2
    refine List.pairwise_cons.mpr ⟨fun z hz => ?_, ih⟩
    rcases List.mem_cons.mp hz with rfl | hz
    · exact h1
    · exact ltS_trans h1 ((List.pairwise_cons.mp ih).1 z hz)
theorem sortS_uniq {ys xs : List Str} (p : ys.Perm xs) (h : PyProof.Rows.sortedS ys = true) : ys = sortS xs := by
  have hp : ys.Pairwise leS := by
    cases ys with
    | nil => exact List.Pairwise.nil
    | cons y r => exact rising_pair h
  exact List.Perm.eq_of_pairwise (le := leS) (fun a b _ _ h1 h2 => ltS_anti h1 h2) hp (sortS_sorted xs) (p.trans (sortS_perm xs).symm)
theorem insI_perm (x : Int) : ∀ l : List Int, (insI x l).Perm (x :: l)
  | [] => List.Perm.refl _
  | y :: r => by
    unfold insI
    split
    · exact ((insI_perm x r).cons y).trans (List.Perm.swap x y r)
    · exact List.Perm.refl _
theorem sortI_perm : ∀ l : List Int, (sortI l).Perm l
  | [] => List.Perm.refl _
  | x :: r => (insI_perm x _).trans ((sortI_perm r).cons x)
theorem insI_sorted (x : Int) : ∀ {l : List Int}, l.Pairwise (· ≤ ·) → (insI x l).Pairwise (· ≤ ·)
  | [], _ => List.pairwise_singleton _ _
  | y :: r, h => by
    unfold insI
    have h' := List.pairwise_cons.mp h
    split
    · refine List.pairwise_cons.mpr ⟨fun z hz => ?_, insI_sorted x h'.2⟩
      rcases List.mem_cons.mp ((insI_perm x r).mem_iff.mp hz) with rfl | hz
      · omega
      · exact h'.1 z hz
    · refine List.pairwise_cons.mpr ⟨fun z hz => ?_, h⟩
      rcases List.mem_cons.mp hz with rfl | hz
      · omega
      · have := h'.1 z hz; omega
theorem sortI_sorted : ∀ l : List Int, (sortI l).Pairwise (· ≤ ·)
  | [] => List.Pairwise.nil
  | x :: r => insI_sorted x (sortI_sorted r)
theorem sortI_uniq {ys xs : List Int} (p : ys.Perm xs) (h : ys.Pairwise (· ≤ ·)) : ys = sortI xs :=
  List.Perm.eq_of_pairwise (le := (· ≤ ·)) (fun a b _ _ h1 h2 => Int.le_antisymm h1 h2) h (sortI_sorted xs) (p.trans (sortI_perm xs).symm)
theorem maxI_le : ∀ (l : List Int) (a : Int), a ≤ maxI a l ∧ (∀ y ∈ l, y ≤ maxI a l) ∧ (maxI a l = a ∨ maxI a l ∈ l)
  | [], a => ⟨Int.le_refl _, fun y h => (by cases h), .inl rfl⟩
  | x :: r, a => by
    have st : maxI a (x :: r) = maxI (if a < x then x else a) r := rfl
    rw [st]
    by_cases h : a < x
    · rw [if_pos h]
      obtain ⟨h1, h2, h3⟩ := maxI_le r x
      refine ⟨by omega, fun y hy => ?_, .inr ?_⟩
      · rcases List.mem_cons.mp hy with rfl | hy
        · exact h1
        · exact h2 y hy
      · rcases h3 with h3 | h3
        · rw [h3]; exact List.mem_cons_self
        · exact List.mem_cons_of_mem _ h3
    · rw [if_neg h]
      obtain ⟨h1, h2, h3⟩ := maxI_le r a
      refine ⟨h1, fun y hy => ?_, ?_⟩
      · rcases List.mem_cons.mp hy with rfl | hy
        · omega
        · exact h2 y hy
      · rcases h3 with h3 | h3
        · exact .inl h3
        · exact .inr (List.mem_cons_of_mem _ h3)
theorem minI_le : ∀ (l : List Int) (a : Int), minI a l ≤ a ∧ (∀ y ∈ l, minI a l ≤ y) ∧ (minI a l = a ∨ minI a l ∈ l)
  | [], a => ⟨Int.le_refl _, fun y h => (by cases h), .inl rfl⟩
  | x :: r, a => by
    have st : minI a (x :: r) = minI (if x < a then x else a) r := rfl
    rw [st]
    by_cases h : x < a
    · rw [if_pos h]
      obtain ⟨h1, h2, h3⟩ := minI_le r x
      refine ⟨by omega, fun y hy => ?_, .inr ?_⟩
      · rcases List.mem_cons.mp hy with rfl | hy
        · exact h1
        · exact h2 y hy
      · rcases h3 with h3 | h3
        · rw [h3]; exact List.mem_cons_self
        · exact List.mem_cons_of_mem _ h3
    · rw [if_neg h]
      obtain ⟨h1, h2, h3⟩ := minI_le r a
      refine ⟨h1, fun y hy => ?_, ?_⟩
      · rcases List.mem_cons.mp hy with rfl | hy
        · omega
        · exact h2 y hy
      · rcases h3 with h3 | h3
        · exact .inl h3
        · exact .inr (List.mem_cons_of_mem _ h3)
section
variable {b : Bs} {F H : Hp}
theorem RdL.one {d : D} {xs : List V} (r : RdL b F H [d] xs) : ∃ v, xs = [v] ∧ Rd1 b F H d v := by
  cases r with
  | cons r t => cases t; exact ⟨_, rfl, r⟩
theorem RdL.two {d e : D} {xs : List V} (r : RdL b F H [d, e] xs) : ∃ v u, xs = [v, u] ∧ Rd1 b F H d v ∧ Rd1 b F H e u := by
  cases r with
  | cons r t =>
    obtain ⟨u, rfl, q⟩ := t.one
    exact ⟨_, _, rfl, r, q⟩
theorem RepL.bls {K : PySem.W.Frag} {mg : Str → Option Value} {F : Hp} : ∀ {ds : List D} {vs : List V} {bs : List Bool}, RepL K mg F ds vs → blsOf ds = some bs → vs = bs.map V.bl
  | [], _, _, r, e => by cases e; unfold RepL at r; exact r
  | d :: ds, _, bs, r, e => by
    unfold RepL at r
    obtain ⟨v, s, rfl, q, l⟩ := r
    cases d with
    | bl c =>
      unfold blsOf at e
      cases e2 : blsOf ds with
      | none => rw [e2] at e; cases e
      | some bs' =>
        rw [e2] at e; cases e
        unfold Rep at q
        rw [q, RepL.bls l e2]; rfl
    | _ => cases e
theorem RepL.strs {K : PySem.W.Frag} {mg : Str → Option Value} {F : Hp} : ∀ {ds : List D} {vs : List V} {bs : List Str}, RepL K mg F ds vs → strsOf ds = some bs → vs = bs.map V.str
  | [], _, _, r, e => by cases e; unfold RepL at r; exact r
  | d :: ds, _, bs, r, e => by
    unfold RepL at r
    obtain ⟨v, s, rfl, q, l⟩ := r
    cases d with
    | str c =>
      unfold strsOf at e
      cases e2 : strsOf ds with
      | none => rw [e2] at e; cases e
      | some bs' =>
        rw [e2] at e; cases e
        unfold Rep at q
        rw [q, RepL.strs l e2]; rfl
    | _ => cases e
theorem RepL.ints {K : PySem.W.Frag} {mg : Str → Option Value} {F : Hp} : ∀ {ds : List D} {vs : List V} {bs : List Int}, RepL K mg F ds vs → intsOf ds = some bs → vs = bs.map V.int
  | [], _, _, r, e => by cases e; unfold RepL at r; exact r
  | d :: ds, _, bs, r, e => by
    unfold RepL at r
    obtain ⟨v, s, rfl, q, l⟩ := r
    cases d with
    | int c =>
      unfold intsOf at e
      cases e2 : intsOf ds with
      | none => rw [e2] at e; cases e
      | some bs' =>
        rw [e2] at e; cases e
        unfold Rep at q
        rw [q, RepL.ints l e2]; rfl
    | _ => cases e
theorem RepL.ofStrs {K : PySem.W.Frag} {mg : Str → Option Value} {F : Hp} (l : List Str) : RepL K mg F (l.map .str) (l.map V.str) := RepL.map (fun i => by unfold Rep; rfl) l
theorem RepL.ofInts {K : PySem.W.Frag} {mg : Str → Option Value} {F : Hp} (l : List Int) : RepL K mg F (l.map .int) (l.map V.int) := RepL.map (fun i => by unfold Rep; rfl) l
/-- dicts: put, drop, merge -/
theorem RepK.any {K : PySem.W.Frag} {mg : Str → Option Value} {F : Hp} {k : D} {kk : Key} (ek : keyOf k = some kk) : ∀ {kvs : List (D × D)} {hk : List (Key × V)}, RepK K mg F kvs hk → (kvs.any fun p => decide (keyOf p.1 = keyOf k)) = hk.any fun kv => decide (kv.1 = kk)
  | [], _, r => by unfold RepK at r; subst r; rfl
  | (c, d) :: kvs, _, r => by
    unfold RepK at r
    obtain ⟨c', v, s, rfl, hc, rv, rr⟩ := r
    have e := dkey_iff.mp hc
    rw [List.any_cons, List.any_cons, RepK.any ek rr]
    congr 1
    show decide (keyOf c = keyOf k) = decide (c' = kk)
    rw [e, ek]
    by_cases h : c' = kk
    · rw [decide_eq_true h, decide_eq_true (congrArg some h)]
    · rw [decide_eq_false h, decide_eq_false fun q => h (Option.some.inj q)]
theorem RepK.snoc {K : PySem.W.Frag} {mg : Str → Option Value} {F : Hp} {k d : D} {kk : Key} {v : V} (ek : DKey k kk) (rv : Rep K mg F d v) : ∀ {kvs : List (D × D)} {hk : List (Key × V)}, RepK K mg F kvs hk → RepK K mg F (kvs ++ [(k, d)]) (hk ++ [(kk, v)])
  | [], _, r => by
    unfold RepK at r; subst r
    show RepK K mg F [(k, d)] [(kk, v)]
    unfold RepK
    refine ⟨kk, v, [], rfl, ek, rv, ?_⟩
    unfold RepK; rfl
  | (c, e) :: kvs, _, r => by
    unfold RepK at r
    obtain ⟨c', w, s, rfl, hc, rw', rr⟩ := r
    show RepK K mg F ((c, e) :: (kvs ++ [(k, d)])) ((c', w) :: (s ++ [(kk, v)]))
    unfold RepK
    exact ⟨c', w, _, rfl, hc, rw', RepK.snoc ek rv rr⟩
theorem RepK.over {K : PySem.W.Frag} {mg : Str → Option Value} {F : Hp} {k d : D} {kk : Key} {v : V} (ek : keyOf k = some kk) (rv : Rep K mg F d v) : ∀ {kvs : List (D × D)} {hk : List (Key × V)}, RepK K mg F kvs hk →
    RepK K mg F (kvs.map fun p => if keyOf p.1 = keyOf k then (p.1, d) else p) (hk.map fun kv => if kv.1 = kk then (kv.1, v) else kv)
  | [], _, r => by unfold RepK at r; subst r; show RepK K mg F [] []; unfold RepK; rfl
  | (c, e) :: kvs, _, r => by
    unfold RepK at r
    obtain ⟨c', w, s, rfl, hc, rw', rr⟩ := r
    have ec := dkey_iff.mp hc
    rw [List.map_cons, List.map_cons]
    have ih := RepK.over (d := d) (v := v) ek rv rr
    by_cases h : c' = kk
    · have h' : keyOf c = keyOf k := by rw [ec, ek, h]
      rw [if_pos (by exact h'), if_pos (by exact h)]
      unfold RepK
      exact ⟨c', v, _, rfl, hc, rv, ih⟩
    · have h' : ¬ keyOf c = keyOf k := by rw [ec, ek]; exact fun q => h (Option.some.inj q)
      rw [if_neg (by exact h'), if_neg (by exact h)]
      unfold RepK
      exact ⟨c', w, _, rfl, hc, rw', ih⟩
theorem RepK.put {K : PySem.W.Frag} {mg : Str → Option Value} {F : Hp} {k d : D} {kk : Key} {v : V} {kvs : List (D × D)} {hk : List (Key × V)} (ek : keyOf k = some kk) (rv : Rep K mg F d v) (r : RepK K mg F kvs hk) : RepK K mg F (putD kvs k d) (putK hk kk v) := by
  unfold putD putK
  rw [r.any ek]
  split
  · exact r.over ek rv
  · exact r.snoc (dkey_iff.mpr ek) rv
theorem RepK.drop {K : PySem.W.Frag} {mg : Str → Option Value} {F : Hp} {k : D} {kk : Key} (ek : keyOf k = some kk) : ∀ {kvs : List (D × D)} {hk : List (Key × V)}, RepK K mg F kvs hk → RepK K mg F (dropD kvs k) (dropK hk kk)
  | [], _, r => by unfold RepK at r; subst r; show RepK K mg F [] []; unfold RepK; rfl
  | (c, e) :: kvs, _, r => by
    unfold RepK at r
    obtain ⟨c', w, s, rfl, hc, rw', rr⟩ := r
    have ec := dkey_iff.mp hc
    have ih := RepK.drop ek rr
    unfold dropD dropK at ih ⊢
    rw [List.filter_cons, List.filter_cons]
    by_cases h : c' = kk
    · have h' : keyOf c = keyOf k := by rw [ec, ek, h]
      rw [if_neg (by simp [h']), if_neg (by simp [h])]
      exact ih
    · have h' : ¬ keyOf c = keyOf k := by rw [ec, ek]; exact fun q => h (Option.some.inj q)
      rw [if_pos (by simp [h']), if_pos (by simp [h])]
      unfold RepK
      exact ⟨c', w, _, rfl, hc, rw', ih⟩
theorem RepK.merge {K : PySem.W.Frag} {mg : Str → Option Value} {F : Hp} : ∀ {more : List (D × D)} {hm : List (Key × V)} {kvs : List (D × D)} {hk : List (Key × V)}, RepK K mg F more hm → RepK K mg F kvs hk → RepK K mg F (mergeD kvs more) (mergeK hk hm)
  | [], _, _, _, r, q => by unfold RepK at r; subst r; exact q
  | (c, e) :: more, _, _, _, r, q => by
    unfold RepK at r
    obtain ⟨c', w, s, rfl, hc, rw', rr⟩ := r
    exact RepK.merge (more := more) (hm := s) rr (q.put (dkey_iff.mp hc) rw')
theorem keyOf_kV {K : PySem.W.Frag} {mg : Str → Option Value} {F : Hp} {k : D} {kk : Key} (h : keyOf k = some kk) : Rep K mg F k (kV kk) := by
  cases k with
  | int i => cases h; unfold Rep; rfl
  | str i => cases h; unfold Rep; rfl
  | _ => cases h
theorem RepK.keys {K : PySem.W.Frag} {mg : Str → Option Value} {F : Hp} : ∀ {kvs : List (D × D)} {hk : List (Key × V)}, RepK K mg F kvs hk → RepL K mg F (kvs.map (·.1)) (hk.map fun kv => kV kv.1)
  | [], _, r => by unfold RepK at r; subst r; show RepL K mg F [] []; unfold RepL; rfl
  | (c, e) :: kvs, _, r => by
    unfold RepK at r
    obtain ⟨c', w, s, rfl, hc, rw', rr⟩ := r
    rw [List.map_cons, List.map_cons]
    unfold RepL
    exact ⟨kV c', _, rfl, keyOf_kV (dkey_iff.mp hc), RepK.keys rr⟩
/-- a list of pairs is what a dict is made of -/
theorem pairs_rep {K : PySem.W.Frag} {mg : Str → Option Value} {F H : Hp} (sb : Sub F H) : ∀ {ds : List D} {vs : List V} {ps : List (D × D)}, RepL K mg F ds vs → pairsD ds = some ps → ∃ (as : List Addr) (hk : List (Key × V)), vs = as.map V.ref ∧ Paired (fun p kv => SqT K H p [kV kv.1, kv.2]) as hk ∧ RepK K mg F ps hk
  | [], _, _, r, e => by
    cases e; unfold RepL at r; subst r
    refine ⟨[], [], rfl, .nil, ?_⟩
    unfold RepK; rfl
  | d :: ds, _, ps, r, e => by
    unfold RepL at r
    obtain ⟨v, s, rfl, q, l⟩ := r
    unfold pairsD at e
    split at e
    · rename_i h; cases h
    · rename_i k c r' h
      cases h
      split at e
      · rename_i hk
        cases e2 : pairsD ds with
        | none => rw [e2] at e; cases e
        | some ps' =>
          rw [e2] at e; cases e
          obtain ⟨as, hk', rfl, pp, rk⟩ := pairs_rep sb l e2
          obtain ⟨kk, ek⟩ := Option.isSome_iff_exists.mp hk
          unfold Rep at q
          obtain ⟨a, xs, rfl, sq, l2⟩ := q
          unfold RepL at l2
          obtain ⟨v1, s1, rfl, q1, l3⟩ := l2
          unfold RepL at l3
          obtain ⟨v2, s2, rfl, q2, l4⟩ := l3
          unfold RepL at l4
          subst l4
          have := keyOf_rd (H := H) (.inl q1) ek
          subst this
          refine ⟨a :: as, (kk, v2) :: hk', rfl, .cons (sb.sqT sq) pp, ?_⟩
          unfold RepK
          exact ⟨kk, v2, hk', rfl, dkey_iff.mpr ek, q2, rk⟩
      · cases e
    · cases e
/-- a new dict -/
theorem gDct {ρ : DL.Env} {σ : St} {Q : VK} (ok : Ok b ρ F H σ) {ds : List (D × D)} {vs : List (Key × V)} (h : Gives b ρ σ F (some (.ow (.dct ds))) Q) (r : RepK b.K b.mg F ds vs) : ∀ p, H p = none → Q (.ref p) (upd H p (.dK vs)) := fun p hp => by
  have g : Grow F H F (upd H p (.dK vs)) := Grow.owned ok.sub hp
  exact h _ F _ (ok.grow g) (Same.refl _) ⟨p, rfl, ok.fresh_F hp, ok.fresh_0 hp, ⟨vs, upd_same, r⟩, ok.apart_new hp, ok.prot_new hp⟩
end
theorem CallR.orD {X : Cx} {v : Value} {r r' : List V → Hp → VK → Prop} (h : CallR X v r) (h' : CallR X v r') : CallR X v (fun xs H Q => r xs H Q ∨ r' xs H Q) := by
  intro pins s σ H xs us Q I rx q
  rcases q with q | q
  · exact h pins s σ H xs us Q I rx q
  · exact h' pins s σ H xs us Q I rx q
theorem weakC {X : Cx} {v : Value} {r r' : List V → Hp → VK → Prop} (h : CallR X v r) (i : ∀ xs H Q, r' xs H Q → r xs H Q) : CallR X v r' := fun pins s σ H xs us Q I rx q => h pins s σ H xs us Q I rx (i _ _ _ q)
section
variable {X : Cx}
theorem call_lenRd : CallR X (.builtin "len") (fun xs H Q => ∃ a kvs, xs = [V.ref a] ∧ Rd H a (.dK kvs) ∧ Q (.int kvs.length) H) := by
  intro pins s σ H xs us Q I r ⟨a, kvs, e, hd, q⟩
  subst e
  obtain ⟨u, rfl, rx⟩ := vals1 r
  cases rx
  exact d_len I hd fun t s' I' => ⟨.int _, H, I', ⟨t, rfl⟩, q⟩
theorem cd_len : CallD X (.builtin "len") fLen := by
  intro b fit
  refine weakC (CallR.orD call_len call_lenRd) fun xs H Q ⟨F, σ', ρ, ds, ok, r, g⟩ => ?_
  unfold fLen at g
  split at g
  · obtain ⟨v, rfl, r1⟩ := r.one
    split at g
    · cases rStr r1
      exact .inl ⟨_, _, rfl, ⟨by assumption, rfl⟩, gInt ok g⟩
    · exact g.elim
  · obtain ⟨v, rfl, r1⟩ := r.one
    obtain ⟨a, xs, rfl, e1, l1⟩ := RepD.lst ok.sub r1
    exact .inl ⟨_, _, rfl, .inl ⟨xs, SqL.of e1, l1.len⟩, gInt ok g⟩
  · obtain ⟨v, rfl, r1⟩ := r.one
    obtain ⟨a, xs, rfl, e1, l1⟩ := RepD.tup ok.sub r1
    rw [fit.K] at e1
    exact .inl ⟨_, _, rfl, .inr ⟨xs, e1, l1.len⟩, gInt ok g⟩
  · obtain ⟨v, rfl, r1⟩ := r.one
    obtain ⟨a, rfl, e1⟩ := RepD.scr ok.sub r1
    rw [fit.K] at e1
    exact .inl ⟨_, _, rfl, .inl ⟨_, e1, (List.length_map ..).symm⟩, gInt ok g⟩
  · obtain ⟨v, rfl, r1⟩ := r.one
    obtain ⟨a, hk, rfl, e1, l1⟩ := RepD.dct ok.sub r1
    exact .inr ⟨a, hk, rfl, e1, by rw [← l1.len]; exact gInt ok g⟩
  · exact g.elim
theorem cd_abs : CallD X (.builtin "abs") fAbs := by
  intro b fit
  refine weakC call_abs fun xs H Q ⟨F, σ', ρ, ds, ok, r, g⟩ => ?_
  unfold fAbs at g
  split at g
  · obtain ⟨v, rfl, r1⟩ := r.one
    cases rInt r1
    exact ⟨_, rfl, gInt ok g⟩
  · exact g.elim
theorem cd_max (hc : X.calm = true) : CallD X (.builtin "max") fMax := by
  intro b fit
  refine weakC (CallR.orD (call_max2 hc) (cr_max hc)) fun xs H Q ⟨F, σ', ρ, ds, ok, r, g⟩ => ?_
  unfold fMax at g
  split at g
  · unfold fMaxL at g
    obtain ⟨v, rfl, r1⟩ := r.one
    split at g
    · rename_i l e
      cases e
      obtain ⟨a, xs, rfl, e1, l1⟩ := RepD.lst ok.sub r1
      split at g
      · rename_i x t ei
        have := l1.ints ei
        subst this
        obtain ⟨h1, h2, h3⟩ := maxI_le t x
        refine .inr ⟨a, x :: t, rfl, SqL.of e1, Nat.succ_pos _, fun m hm hy => ?_⟩
        have e : m = maxI x t := by
          have a1 := hy (maxI x t) (by rcases h3 with h3 | h3 <;> simp [h3])
          have a2 : m ≤ maxI x t := by
            rcases List.mem_cons.mp hm with rfl | hm
            · exact h1
            · exact h2 m hm
          omega
        rw [e]
        exact gInt ok g
      · exact g.elim
    · exact g.elim
  · unfold fMax2 at g
    split at g
    · obtain ⟨v, u, rfl, r1, r2⟩ := r.two
      cases rInt r1; cases rInt r2
      exact .inl ⟨_, _, rfl, gInt ok g⟩
    · exact g.elim
theorem cd_min (hc : X.calm = true) : CallD X (.builtin "min") fMin := by
  intro b fit
  refine weakC (CallR.orD (call_min2 hc) (cr_min hc)) fun xs H Q ⟨F, σ', ρ, ds, ok, r, g⟩ => ?_
  unfold fMin at g
  split at g
  · unfold fMinL at g
    obtain ⟨v, rfl, r1⟩ := r.one
    split at g
    · rename_i l e
      cases e
      obtain ⟨a, xs, rfl, e1, l1⟩ := RepD.lst ok.sub r1
      split at g
      · rename_i x t ei
        have := l1.ints ei
        subst this
        obtain ⟨h1, h2, h3⟩ := minI_le t x
        refine .inr ⟨a, x :: t, rfl, SqL.of e1, Nat.succ_pos _, fun m hm hy => ?_⟩
        have e : m = minI x t := by
          have a1 := hy (minI x t) (by rcases h3 with h3 | h3 <;> simp [h3])
          have a2 : minI x t ≤ m := by
            rcases List.mem_cons.mp hm with rfl | hm
            · exact h1
            · exact h2 m hm
          omega
        rw [e]
        exact gInt ok g
      · exact g.elim
    · exact g.elim
  · unfold fMin2 at g
    split at g
    · obtain ⟨v, u, rfl, r1, r2⟩ := r.two
      cases rInt r1; cases rInt r2
      exact .inl ⟨_, _, rfl, gInt ok g⟩
    · exact g.elim
theorem cd_int : CallD X (.type "int") fInt := by
  intro b fit
  refine weakC (CallR.orD call_int1 call_int_str) fun xs H Q ⟨F, σ', ρ, ds, ok, r, g⟩ => ?_
  unfold fInt at g
  split at g
  · obtain ⟨v, rfl, r1⟩ := r.one
    cases rInt r1
    exact .inl (.inl ⟨_, rfl, gInt ok g⟩)
  · obtain ⟨v, rfl, r1⟩ := r.one
    cases rBl r1
    exact .inl (.inr ⟨_, rfl, gInt ok g⟩)
  · obtain ⟨v, rfl, r1⟩ := r.one
    cases rStr r1
    split at g
    · rename_i a _ hz
      cases e : PySem.intText? a with
      | none => rw [e] at g; exact g.elim
      | some n => rw [e] at g; exact .inr ⟨_, n, rfl, e, hz, gInt ok g⟩
    · exact g.elim
  · exact g.elim
theorem cd_str : CallD X (.type "str") fStr := by
  intro b fit
  refine weakC (CallR.orD call_str_int SkE.call_str_str) fun xs H Q ⟨F, σ', ρ, ds, ok, r, g⟩ => ?_
  unfold fStr at g
  split at g
  · obtain ⟨v, rfl, r1⟩ := r.one
    cases rInt r1
    split at g
    · rename_i hz
      exact .inl ⟨_, rfl, hz, gStr ok g⟩
    · exact g.elim
  · obtain ⟨v, rfl, r1⟩ := r.one
    cases rStr r1
    exact .inr ⟨_, rfl, gStr ok g⟩
  · exact g.elim
theorem cd_all (hc : X.calm = true) : CallD X (.builtin "all") fAll := by
  intro b fit
  refine weakC (cr_all hc) fun xs H Q ⟨F, σ', ρ, ds, ok, r, g⟩ => ?_
  unfold fAll at g
  split at g
  · rename_i l
    obtain ⟨v, rfl, r1⟩ := r.one
    obtain ⟨a, xs, rfl, e1, l1⟩ := RepD.lst ok.sub r1
    cases e : blsOf l with
    | none => rw [e] at g; exact g.elim
    | some bs =>
      rw [e] at g
      have := l1.bls e
      subst this
      exact ⟨a, bs, rfl, SqL.of e1, gBl ok g⟩
  · exact g.elim
theorem cd_any (hc : X.calm = true) : CallD X (.builtin "any") fAny := by
  intro b fit
  refine weakC (cr_any hc) fun xs H Q ⟨F, σ', ρ, ds, ok, r, g⟩ => ?_
  unfold fAny at g
  split at g
  · rename_i l
    obtain ⟨v, rfl, r1⟩ := r.one
    obtain ⟨a, xs, rfl, e1, l1⟩ := RepD.lst ok.sub r1
    cases e : blsOf l with
    | none => rw [e] at g; exact g.elim
    | some bs =>
      rw [e] at g
      have := l1.bls e
      subst this
      exact ⟨a, bs, rfl, SqL.of e1, gBl ok g⟩
  · exact g.elim
theorem cd_tuple : CallD X (.type "tuple") fTuple := by
  intro b fit
  refine weakC call_tuple_of fun xs H Q ⟨F, σ', ρ, ds, ok, r, g⟩ => ?_
  unfold fTuple at g
  split at g
  · obtain ⟨v, rfl, r1⟩ := r.one
    obtain ⟨a, xs, rfl, e1, l1⟩ := RepD.lst ok.sub r1
    exact ⟨a, xs, rfl, .inl ⟨SqL.of e1, gTup ok g l1⟩⟩
  · obtain ⟨v, rfl, r1⟩ := r.one
    have r1' := r1
    obtain ⟨a, xs, rfl, e1, l1⟩ := RepD.tup ok.sub r1
    rw [fit.K] at e1
    refine ⟨a, xs, rfl, .inr ⟨e1, gFz ok g ?_⟩⟩
    rcases r1' with r | ⟨_, _, oa⟩
    · exact r
    · exact oa.elim
  · exact g.elim
theorem cd_list (hc : X.calm = true) : CallD X (.type "list") fList := by
  intro b fit
  refine weakC (CallR.orD call_list_of (call_listD hc)) fun xs H Q ⟨F, σ', ρ, ds, ok, r, g⟩ => ?_
  unfold fList at g
  split at g
  · obtain ⟨v, rfl, r1⟩ := r.one
    obtain ⟨a, xs, rfl, e1, l1⟩ := RepD.lst ok.sub r1
    exact .inl ⟨a, xs, rfl, .inl (SqL.of e1), gLst ok g l1⟩
  · obtain ⟨v, rfl, r1⟩ := r.one
    obtain ⟨a, xs, rfl, e1, l1⟩ := RepD.tup ok.sub r1
    rw [fit.K] at e1
    exact .inl ⟨a, xs, rfl, .inr e1, gLst ok g l1⟩
  · obtain ⟨v, rfl, r1⟩ := r.one
    obtain ⟨a, hk, rfl, e1, l1⟩ := RepD.dct ok.sub r1
    exact .inr ⟨a, hk, rfl, e1, gLst ok g l1.keys⟩
  · exact g.elim
theorem cd_dict (hc : X.calm = true) : CallD X (.type "dict") fDict := by
  intro b fit
  refine weakC (CallR.orD (call_dictP hc) call_dictD) fun xs H Q ⟨F, σ', ρ, ds, ok, r, g⟩ => ?_
  unfold fDict at g
  split at g
  · rename_i l
    obtain ⟨v, rfl, r1⟩ := r.one
    obtain ⟨a, xs, rfl, e1, l1⟩ := RepD.lst ok.sub r1
    cases e : pairsD l with
    | none => rw [e] at g; exact g.elim
    | some ps =>
      rw [e] at g
      obtain ⟨as, hk, rfl, pp, rk⟩ := pairs_rep ok.sub l1 e
      rw [fit.K] at pp
      exact .inl ⟨a, as, hk, rfl, SqL.of e1, pp, gDct ok g (rk.merge (by unfold RepK; rfl))⟩
  · obtain ⟨v, rfl, r1⟩ := r.one
    obtain ⟨a, hk, rfl, e1, l1⟩ := RepD.dct ok.sub r1
    exact .inr ⟨a, hk, rfl, e1, gDct ok g l1⟩
  · exact g.elim
theorem keys_strs {K : PySem.W.Frag} {mg : Str → Option Value} {F : Hp} : ∀ {kvs : List (D × D)} {hk : List (Key × V)} {ss : List Str}, RepK K mg F kvs hk → strsOf (kvs.map (·.1)) = some ss → hk.map (·.1) = ss.map Sum.inr
  | [], _, _, r, e => by cases e; unfold RepK at r; subst r; rfl
  | (c, d) :: kvs, _, ss, r, e => by
    unfold RepK at r
    obtain ⟨c', w, s, rfl, hc, rw', rr⟩ := r
    rw [List.map_cons] at e
    cases c with
    | str z =>
      dsimp only at e
      unfold strsOf at e
      cases e2 : strsOf (kvs.map (·.1)) with
      | none => rw [e2] at e; cases e
      | some ss' =>
        rw [e2] at e; cases e
        have := dkey_iff.mp hc
        cases this
        rw [List.map_cons, List.map_cons, keys_strs rr e2]
    | _ => cases e
theorem keys_ints {K : PySem.W.Frag} {mg : Str → Option Value} {F : Hp} : ∀ {kvs : List (D × D)} {hk : List (Key × V)} {ss : List Int}, RepK K mg F kvs hk → intsOf (kvs.map (·.1)) = some ss → hk.map (·.1) = ss.map Sum.inl
  | [], _, _, r, e => by cases e; unfold RepK at r; subst r; rfl
  | (c, d) :: kvs, _, ss, r, e => by
    unfold RepK at r
    obtain ⟨c', w, s, rfl, hc, rw', rr⟩ := r
    rw [List.map_cons] at e
    cases c with
    | int z =>
      dsimp only at e
      unfold intsOf at e
      cases e2 : intsOf (kvs.map (·.1)) with
      | none => rw [e2] at e; cases e
      | some ss' =>
        rw [e2] at e; cases e
        have := dkey_iff.mp hc
        cases this
        rw [List.map_cons, List.map_cons, keys_ints rr e2]
    | _ => cases e
theorem cd_sorted (hc : X.calm = true) : CallD X (.builtin "sorted") fSorted := by
  intro b fit
  refine weakC (CallR.orD (CallR.orD cr_sortedS cr_sorted) (CallR.orD (call_sortedD hc) (call_sortedDI hc))) fun xs H Q ⟨F, σ', ρ, ds, ok, r, g⟩ => ?_
  unfold fSorted at g
  split at g
  · rename_i l
    obtain ⟨v, rfl, r1⟩ := r.one
    obtain ⟨a, xs, rfl, e1, l1⟩ := RepD.lst ok.sub r1
    unfold sortFlat at g
    split at g
    · rename_i ss es
      have := l1.strs es
      subst this
      split at g
      · rename_i h64
        refine .inl (.inl ⟨a, ss, rfl, SqL.of e1, h64, fun ys p hp hs hn => ?_⟩)
        rw [sortS_uniq hp hs]
        exact gLst ok g (RepL.ofStrs _) p hn
      · exact g.elim
    · split at g
      · rename_i is es
        have := l1.ints es
        subst this
        split at g
        · rename_i h64
          refine .inl (.inr ⟨a, is, rfl, SqL.of e1, h64, fun ys p hp hs hn => ?_⟩)
          rw [sortI_uniq hp hs]
          exact gLst ok g (RepL.ofInts _) p hn
        · exact g.elim
      · exact g.elim
  · rename_i l
    obtain ⟨v, rfl, r1⟩ := r.one
    obtain ⟨a, hk, rfl, e1, l1⟩ := RepD.dct ok.sub r1
    unfold sortFlat at g
    split at g
    · rename_i ss es
      split at g
      · rename_i h64
        refine .inr (.inl ⟨a, hk, ss, rfl, e1, keys_strs l1 es, h64, fun ys p hp hs hn => ?_⟩)
        rw [sortS_uniq hp hs]
        exact gLst ok g (RepL.ofStrs _) p hn
      · exact g.elim
    · split at g
      · rename_i is es
        split at g
        · rename_i h64
          refine .inr (.inr ⟨a, hk, is, rfl, e1, keys_ints l1 es, h64, fun ys p hp hs hn => ?_⟩)
          rw [sortI_uniq hp hs]
          exact gLst ok g (RepL.ofInts _) p hn
        · exact g.elim
      · exact g.elim
  · exact g.elim
end
end DL

namespace DL
open PySem PySem.Spec L2

/-! ### what a slot holds is changed -/
section
variable {b : Bs} {W : WX} {σ : St} {ρ : DL.Env} {F H : Hp}
theorem Sl.put_held {s : Sl} {d : D} : (s.put d).held = s.held := by cases s <;> rfl
theorem Ok.mut (k : Ok b ρ F H σ) {i : Nat} {s : Sl} {a : Addr} {d' : D} {o' : HO} (e : ρ[i]? = some s) (hs : s.held = true) (ea : σ[i]? = some (some (.ref a))) (oa : OwnAt b.K b.mg F (upd H a o') a d') : Ok b (ρ.set i (s.put d')) F (upd H a o') σ := by
  have z := k.slot i s e
  rw [ea] at z
  have hF : F a = none := by
    cases s with
    | un => cases hs
    | fz d => cases hs
    | ow d => obtain ⟨c, ec, n, _⟩ := z; cases ec; exact n
    | bo d => obtain ⟨c, ec, n, _⟩ := z; cases ec; exact n
  have hold : ∀ c o, b.H_0 c = some o → c ∉ b.B.map (·.2) → c ≠ a := fun c o e0 hb hc => by
    subst hc
    cases s with
    | un => cases hs
    | fz d => cases hs
    | ow d => obtain ⟨c', ec, _, n0, _⟩ := z; cases ec; rw [n0] at e0; cases e0
    | bo d => obtain ⟨c', ec, _, n0, _⟩ := z; cases ec; exact hb n0
  refine ⟨fun x o ex => ?_, fun c o e0 hb => ?_, k.ext, k.new, by rw [List.length_set]; exact k.len, fun j t ej => ?_, fun j l t t' c ej el h1 h2 q1 q2 => ?_, fun p hp => ?_, fun p hp => ?_⟩
  · have hx : x ≠ a := fun q => by subst q; rw [hF] at ex; cases ex
    rw [upd_ne hx]
    exact k.sub x o ex
  · rw [upd_ne (hold c o e0 hb)]
    exact k.old c o e0 hb
  · rcases set_get ej with ⟨rfl, _, rfl⟩ | ⟨hj, ej'⟩
    · rw [ea]
      cases s with
      | un => cases hs
      | fz d => cases hs
      | ow d => obtain ⟨c, ec, n, n0, _⟩ := z; cases ec; exact ⟨a, rfl, n, n0, oa⟩
      | bo d => obtain ⟨c, ec, n, n0, _⟩ := z; cases ec; exact ⟨a, rfl, n, n0, oa⟩
    · have w := k.slot j t ej'
      have hne : ∀ c, t.held = true → (σ[j]?).getD none = some (.ref c) → c ≠ a := fun c ht ec q => by
        subst q
        exact hj (k.sep j i t s c ej' e ht hs (getD_ref ec) ea)
      cases t with
      | un => trivial
      | fz d => exact w
      | ow d =>
        obtain ⟨c, ec, n, n0, oc⟩ := w
        exact ⟨c, ec, n, n0, oc.mono (Same.refl _) fun o q => by rw [upd_ne (hne c rfl ec)]; exact q⟩
      | bo d =>
        obtain ⟨c, ec, n, n0, oc⟩ := w
        exact ⟨c, ec, n, n0, oc.mono (Same.refl _) fun o q => by rw [upd_ne (hne c rfl ec)]; exact q⟩
  · have back : ∀ {m : Nat} {u : Sl}, (ρ.set i (s.put d'))[m]? = some u → ∃ u', ρ[m]? = some u' ∧ u'.held = u.held := fun {m u} em => by
      rcases set_get em with ⟨rfl, _, rfl⟩ | ⟨_, em'⟩
      · exact ⟨s, e, Sl.put_held.symm⟩
      · exact ⟨u, em', rfl⟩
    obtain ⟨u1, f1, g1⟩ := back ej
    obtain ⟨u2, f2, g2⟩ := back el
    exact k.sep j l u1 u2 c f1 f2 (by rw [g1]; exact h1) (by rw [g2]; exact h2) q1 q2
  · obtain ⟨e1, d, e2⟩ := k.bor p hp
    refine ⟨e1, ?_⟩
    by_cases hi : p.1 = i
    · rw [hi] at e2 ⊢
      rw [e] at e2; cases e2
      exact ⟨d', set_at e⟩
    · exact ⟨d, by rw [List.getElem?_set_ne (Ne.symm hi)]; exact e2⟩
  · obtain ⟨h1, h2, h3⟩ := k.prot p hp
    have hpa : p.1 ≠ a := fun q => h3 i s e hs (by rw [q]; exact ea)
    refine ⟨by rw [upd_ne hpa]; exact h1, h2, fun j t ej ht w => ?_⟩
    rcases set_get ej with ⟨rfl, _, rfl⟩ | ⟨_, ej'⟩
    · exact hpa (by rw [ea] at w; exact (V.ref.inj (Option.some.inj (Option.some.inj w))).symm)
    · exact h3 j t ej' ht w
end

/-! ### methods of built-in types -/
def kindD : D → String
  | .str _ => "str"
  | .lst _ => "list"
  | .scr _ => "list"
  | .dct _ => "dict"
  | .int _ => "int"
  | _ => ""
def tyW (K : PySem.W.Frag) (T : String) (x : V) (H : Hp) : Prop := tyV K T x H ∨ (T = "dict" ∧ ∃ p, x = .ref p ∧ IsD H p)
theorem tyW_is {X : Cx} {pins : List (Addr × Obj)} {σ : St} {H : Hp} {s : Shared} {T : String} {x : V} {v : Value} (I : Inv X pins σ H s) (r : RelV x v) (ty : tyW X.K T x H) :
    s.TypeIs v T ∧ ∀ a, v = .ref a → ∃ ob, s.heap.get? a = some ob ∧ ob.dict = none := by
  rcases ty with ty | ⟨rfl, p, rfl, d⟩
  · exact tyV_is I r ty
  · cases r
    obtain ⟨h1, h2, _⟩ := isD_at I d
    exact ⟨h1, h2⟩
theorem kind_ty {K : PySem.W.Frag} {mg : Str → Option Value} {F H : Hp} {d : D} {v : V} {T : String} (sb : Sub F H) (r : RepD K mg F H d v) (h : kindD d = T) (hT : T ≠ "") : tyW K T v H := by
  subst h
  cases d with
  | str z => exact .inl (by rw [show v = .str z from (RepD.flat (d := .str z) rfl r).1]; exact rfl)
  | int z => exact .inl (by rw [show v = .int z from (RepD.flat (d := .int z) rfl r).1]; exact rfl)
  | lst l =>
    obtain ⟨a, xs, rfl, e1, _⟩ := r.lst sb
    exact .inl (.inl ⟨rfl, xs, SqL.of e1⟩)
  | scr l =>
    obtain ⟨a, rfl, e1⟩ := r.scr sb
    exact .inl (.inl ⟨rfl, _, e1⟩)
  | dct l =>
    obtain ⟨a, hk, rfl, e1, _⟩ := r.dct sb
    exact .inr ⟨rfl, a, rfl, .inl ⟨hk, e1⟩⟩
  | _ => exact absurd rfl hT
section
variable {X : Cx} {o e : Expr} {es : List Expr} {to : TE} {t : TA} {name : Str} {apos cpos : Pos} {T id : String} {r : V → List V → Hp → VK → Prop}
def tBW0 (K : PySem.W.Frag) (T : String) (r : V → List V → Hp → VK → Prop) (to : TE) : TE := fun σ H Q => to σ H fun x H1 => tyW K T x H1 ∧ r x [] H1 Q
def tBW (K : PySem.W.Frag) (T : String) (r : V → List V → Hp → VK → Prop) (to : TE) (t : TA) : TE := fun σ H Q => to σ H fun x H1 => tyW K T x H1 ∧ t σ H1 fun xs H2 => r x xs H2 Q
theorem pe_bw0 (pa : PlainAttrs T) (slot : Slot T name id) (hty : typeOf (.builtin id) = pure (.type "method_descriptor")) (hm : MtR X id r) (ho : PE X o to)
    (hbase : attributeBase o name X.env (eval o X.env) = eval o X.env) (hline : (apos.endLine == cpos.line) = true) : PE X (.Call (.Attribute o name apos) [] [] cpos) (tBW0 X.K T r to) := by
  refine ⟨fun pins s σ H Q I h => ?_⟩
  refine wpAny_Call_method0_late hbase hline (thn (ho.run pins s σ H _ I h) fun v s1 ⟨x, H1, I1, r1, ty, q1⟩ => ?_)
  obtain ⟨h1, h2⟩ := tyW_is I1 r1 ty
  exact ⟨T, id, pa, slot, hty, h1, h2, Calls.callWith_builtin rfl (PySem.evalArgs_none (hm pins s1 σ H1 x [] v [] Q I1 r1 .nil q1))⟩
theorem pe_bw (pa : PlainAttrs T) (slot : Slot T name id) (hty : typeOf (.builtin id) = pure (.type "method_descriptor")) (hm : MtR X id r) (ho : PE X o to) (ha : PA X (e :: es) t)
    (hbase : attributeBase o name X.env (eval o X.env) = eval o X.env)
    (hfew : ((backTo cpos (starEach (e :: es) X.env)).all (fun x => !x.1) && (backToKw cpos (keywordEach [] X.env)).all (fun x => x.1.isSome)
      && decide ((e :: es).length + ([] : List Keyword).length + (if ([] : List Keyword).isEmpty then 0 else 1) < 30)) = true)
    (hline : (apos.endLine == cpos.line) = true) (hs : starEach (e :: es) X.env = (false, eval e X.env) :: starEach es X.env) (hplain : (backTo cpos (starEach es X.env)).any (·.1) = false) :
    PE X (.Call (.Attribute o name apos) (e :: es) [] cpos) (tBW X.K T r to t) := by
  refine ⟨fun pins s σ H Q I h => ?_⟩
  refine wpAny_Call_method_late hbase hfew hline rfl (thn (ho.run pins s σ H _ I h) fun v s1 ⟨x, H1, I1, r1, ty, q1⟩ => ?_)
  obtain ⟨h1, h2⟩ := tyW_is I1 r1 ty
  refine ⟨T, id, pa, slot, hty, h1, h2, ?_⟩
  have hA := ha.run cpos pins s1 σ H1 _ I1 q1
  rw [hs] at hA ⊢
  refine Calls.callWith_builtin (by show (false || (backTo cpos (starEach es X.env)).any (·.1)) = false; rw [hplain] <;> rfl) (Calls.evalArgs_plain ?_)
  exact thn hA fun us s2 ⟨vs, H2, I2, r2, q2⟩ => hm pins s2 σ H2 x vs v us Q I2 r1 r2 q2
end
/-- a method that reads: the receiver's kind is looked at ahead of the arguments -/
def mRead (T : String) (f : D → List D → Option AV) (φ : M AV) (ψ : M (List AV)) : M AV := φ.bnd fun a => (rd (stab a)).bnd fun d0 => if kindD d0 = T then ψ.bnd fun avs => (rd (stab a)).bnd fun d => (rdAll avs).bnd fun ds => lift (f d ds) else M.stuck
def mutAt (f : D → List D → Option (D × D)) (av : AV) (ds : List D) : M AV := match av with
  | .sl i => fun ρ => match ρ[i]? with
    | some s => if s.held then match s.data? with
        | some d => match f d ds with
          | some (d', r) => .ok (.fz r) (ρ.set i (s.put d'))
          | none => .no
        | none => .no
      else .no
    | none => .no
  | _ => M.stuck
/-- a method that changes its receiver, which a slot holds -/
def mMut (T : String) (f : D → List D → Option (D × D)) (φ : M AV) (ψ : M (List AV)) : M AV := φ.bnd fun a => (rd (stab a)).bnd fun d0 => if kindD d0 = T then ψ.bnd fun avs => (frzAll avs).bnd fun ds => mutAt f (stab a) ds else M.stuck
def rMut (b : Bs) (f : D → List D → Option (D × D)) : V → List V → Hp → VK → Prop := fun x xs H Q => ∃ F ds a d, x = .ref a ∧ Sub F H ∧ F a = none ∧ OwnAt b.K b.mg F H a d ∧ RepL b.K b.mg F ds xs ∧
  match f d ds with
  | some (d', r) => ∀ o' v, OwnAt b.K b.mg F (upd H a o') a d' → Rep b.K b.mg F r v → Q v (upd H a o')
  | none => False
abbrev MuD (X : Cx) (id : String) (f : D → List D → Option (D × D)) : Prop := ∀ b, Fit X b → MtR X id (rMut b f)
section
variable {X : Cx} {b : Bs} {W : WX} {o e : Expr} {es : List Expr} {name : Str} {apos cpos : Pos} {T id : String} {φ : M AV} {ψ : M (List AV)}
theorem run_read {f : D → List D → Option AV} {σ : St} {F H : Hp} {ρ : DL.Env} {Q : VK} (hT : T ≠ "") (k : Ok b ρ F H σ) (h : After b W σ F (mRead T f φ ψ ρ) fun av ρ' F' H' => ∀ v, RepA b F' H' σ ρ' av v → Q v H') :
    tE b W φ σ H fun x H1 => tyW b.K T x H1 ∧ tAs b W ψ σ H1 fun xs H2 => rDm b f x xs H2 Q := by
  refine runE k h fun av x ρ1 F1 H1 k1 s1 r1 h1 => ?_
  obtain ⟨F2, k2, s2, r2⟩ := k1.stab r1
  obtain ⟨d0, q0, h2⟩ := (h1.later s2).read k2 r2
  by_cases hk : kindD d0 = T
  · rw [if_pos hk] at h2
    refine ⟨kind_ty k2.sub q0 hk hT, runA k2 h2 fun avs vs ρ3 F3 H3 k3 s3 r3 h3 => ?_⟩
    obtain ⟨d, q1, h4⟩ := h3.read k3 (r2.stays s3)
    obtain ⟨ds, q2, h5⟩ := After.readAll k3 r3 h4
    exact ⟨F3, σ, ρ3, d, ds, k3, q1, q2, h5.gives⟩
  · rw [if_neg hk] at h2
    exact h2.elim
theorem run_read0 {f : D → List D → Option AV} {σ : St} {F H : Hp} {ρ : DL.Env} {Q : VK} (hT : T ≠ "") (k : Ok b ρ F H σ) (h : After b W σ F (mRead T f φ mNil ρ) fun av ρ' F' H' => ∀ v, RepA b F' H' σ ρ' av v → Q v H') :
    tE b W φ σ H fun x H1 => tyW b.K T x H1 ∧ rDm b f x [] H1 Q := by
  refine runE k h fun av x ρ1 F1 H1 k1 s1 r1 h1 => ?_
  obtain ⟨F2, k2, s2, r2⟩ := k1.stab r1
  obtain ⟨d0, q0, h2⟩ := (h1.later s2).read k2 r2
  by_cases hk : kindD d0 = T
  · rw [if_pos hk] at h2
    refine ⟨kind_ty k2.sub q0 hk hT, ?_⟩
    obtain ⟨d, q1, h4⟩ := (show After b W σ F2 ((rd (stab av)).bnd (fun d => (rdAll []).bnd fun ds => lift (f d ds)) ρ1) _ from h2).read k2 r2
    exact ⟨F2, σ, ρ1, d, [], k2, q1, .nil, (show After b W σ F2 (lift (f d []) ρ1) _ from h4).gives⟩
  · rw [if_neg hk] at h2
    exact h2.elim
theorem After.mut {f : D → List D → Option (D × D)} {σ : St} {F H : Hp} {ρ : DL.Env} {av : AV} {x : V} {ds : List D} {Q : VK} (k : Ok b ρ F H σ) (r : RepA b F H σ ρ (stab av) x) {xs : List V} (rs : RepL b.K b.mg F ds xs)
    (h : After b W σ F (mutAt f (stab av) ds ρ) fun av ρ' F' H' => ∀ v, RepA b F' H' σ ρ' av v → Q v H') : rMut b f x xs H Q := by
  cases av with
  | fz d => exact h.elim
  | ow d => exact h.elim
  | sl i =>
    have r : σ[i]? = some (some x) := r
    dsimp only [stab, mutAt] at h
    cases e : ρ[i]? with
    | none => rw [e] at h; exact h.elim
    | some s =>
      rw [e] at h
      dsimp only at h
      cases hh : s.held with
      | false => rw [hh] at h; exact h.elim
      | true =>
        rw [hh] at h
        simp only [if_true] at h
        have z := k.slot i s e
        rw [r] at z
        have go : ∀ d a, x = .ref a → F a = none → s.data? = some d → OwnAt b.K b.mg F H a d → rMut b f x xs H Q := fun d a ex n hd oa => by
          subst ex
          rw [hd] at h
          dsimp only at h
          refine ⟨F, ds, a, d, rfl, k.sub, n, oa, rs, ?_⟩
          cases ef : f d ds with
          | none => rw [ef] at h; exact h.elim
          | some p =>
            obtain ⟨d', rr⟩ := p
            rw [ef] at h
            exact fun o' v oa' rv => h F _ (k.mut e hh r oa') (Same.refl _) v rv
        cases s with
        | un => cases hh
        | fz d => cases hh
        | ow d => obtain ⟨a, ea, n, _, oa⟩ := z; exact go d a (Option.some.inj ea) n rfl oa
        | bo d => obtain ⟨a, ea, n, _, oa⟩ := z; exact go d a (Option.some.inj ea) n rfl oa
theorem run_mut {f : D → List D → Option (D × D)} {σ : St} {F H : Hp} {ρ : DL.Env} {Q : VK} (hT : T ≠ "") (k : Ok b ρ F H σ) (h : After b W σ F (mMut T f φ ψ ρ) fun av ρ' F' H' => ∀ v, RepA b F' H' σ ρ' av v → Q v H') :
    tE b W φ σ H fun x H1 => tyW b.K T x H1 ∧ tAs b W ψ σ H1 fun xs H2 => rMut b f x xs H2 Q := by
  refine runE k h fun av x ρ1 F1 H1 k1 s1 r1 h1 => ?_
  obtain ⟨F2, k2, s2, r2⟩ := k1.stab r1
  obtain ⟨d0, q0, h2⟩ := (h1.later s2).read k2 r2
  by_cases hk : kindD d0 = T
  · rw [if_pos hk] at h2
    refine ⟨kind_ty k2.sub q0 hk hT, runA k2 h2 fun avs vs ρ3 F3 H3 k3 s3 r3 h3 => ?_⟩
    obtain ⟨ds, ρ4, F4, k4, s4, q4, h4⟩ := After.frozeAll r3 k3 (Same.refl _) h3
    exact After.mut k4 (r2.stays (s3.trans s4)) q4 h4
  · rw [if_neg hk] at h2
    exact h2.elim
theorem run_mut0 {f : D → List D → Option (D × D)} {σ : St} {F H : Hp} {ρ : DL.Env} {Q : VK} (hT : T ≠ "") (k : Ok b ρ F H σ) (h : After b W σ F (mMut T f φ mNil ρ) fun av ρ' F' H' => ∀ v, RepA b F' H' σ ρ' av v → Q v H') :
    tE b W φ σ H fun x H1 => tyW b.K T x H1 ∧ rMut b f x [] H1 Q := by
  refine runE k h fun av x ρ1 F1 H1 k1 s1 r1 h1 => ?_
  obtain ⟨F2, k2, s2, r2⟩ := k1.stab r1
  obtain ⟨d0, q0, h2⟩ := (h1.later s2).read k2 r2
  by_cases hk : kindD d0 = T
  · rw [if_pos hk] at h2
    refine ⟨kind_ty k2.sub q0 hk hT, ?_⟩
    exact After.mut k2 r2 (ds := []) (xs := []) (by unfold RepL; rfl) (show After b W σ F2 (mutAt f (stab av) [] ρ1) _ from h2)
  · rw [if_neg hk] at h2
    exact h2.elim
theorem de_m0 {f : D → List D → Option AV} (fit : Fit X b) (pa : PlainAttrs T) (slot : Slot T name id) (hty : typeOf (.builtin id) = pure (.type "method_descriptor")) (hm : MtD X id f) (ho : PE X o (tE b W φ)) (hT : T ≠ "" := by decide)
    (hbase : attributeBase o name X.env (eval o X.env) = eval o X.env := by rfl) (hline : (apos.endLine == cpos.line) = true := by rfl) : PE X (.Call (.Attribute o name apos) [] [] cpos) (tE b W (mRead T f φ mNil)) := by
  refine weakE (pe_bw0 pa slot hty (hm b fit) ho hbase hline) fun σ H Q ⟨F, ρ, k, h⟩ => ?_
  have := run_read0 hT k h
  rw [fit.K] at this
  exact this
theorem de_m {f : D → List D → Option AV} (fit : Fit X b) (pa : PlainAttrs T) (slot : Slot T name id) (hty : typeOf (.builtin id) = pure (.type "method_descriptor")) (hm : MtD X id f) (ho : PE X o (tE b W φ)) (ha : PA X (e :: es) (tAs b W ψ)) (hT : T ≠ "" := by decide)
    (hbase : attributeBase o name X.env (eval o X.env) = eval o X.env := by rfl)
    (hfew : ((backTo cpos (starEach (e :: es) X.env)).all (fun x => !x.1) && (backToKw cpos (keywordEach [] X.env)).all (fun x => x.1.isSome)
      && decide ((e :: es).length + ([] : List Keyword).length + (if ([] : List Keyword).isEmpty then 0 else 1) < 30)) = true := by rfl)
    (hline : (apos.endLine == cpos.line) = true := by rfl) (hs : starEach (e :: es) X.env = (false, eval e X.env) :: starEach es X.env := by rfl) (hplain : (backTo cpos (starEach es X.env)).any (·.1) = false := by rfl) :
    PE X (.Call (.Attribute o name apos) (e :: es) [] cpos) (tE b W (mRead T f φ ψ)) := by
  refine weakE (pe_bw pa slot hty (hm b fit) ho ha hbase hfew hline hs hplain) fun σ H Q ⟨F, ρ, k, h⟩ => ?_
  have := run_read hT k h
  rw [fit.K] at this
  exact this
theorem de_u0 {f : D → List D → Option (D × D)} (fit : Fit X b) (pa : PlainAttrs T) (slot : Slot T name id) (hty : typeOf (.builtin id) = pure (.type "method_descriptor")) (hm : MuD X id f) (ho : PE X o (tE b W φ)) (hT : T ≠ "" := by decide)
    (hbase : attributeBase o name X.env (eval o X.env) = eval o X.env := by rfl) (hline : (apos.endLine == cpos.line) = true := by rfl) : PE X (.Call (.Attribute o name apos) [] [] cpos) (tE b W (mMut T f φ mNil)) := by
  refine weakE (pe_bw0 pa slot hty (hm b fit) ho hbase hline) fun σ H Q ⟨F, ρ, k, h⟩ => ?_
  have := run_mut0 hT k h
  rw [fit.K] at this
  exact this
theorem de_u {f : D → List D → Option (D × D)} (fit : Fit X b) (pa : PlainAttrs T) (slot : Slot T name id) (hty : typeOf (.builtin id) = pure (.type "method_descriptor")) (hm : MuD X id f) (ho : PE X o (tE b W φ)) (ha : PA X (e :: es) (tAs b W ψ)) (hT : T ≠ "" := by decide)
    (hbase : attributeBase o name X.env (eval o X.env) = eval o X.env := by rfl)
    (hfew : ((backTo cpos (starEach (e :: es) X.env)).all (fun x => !x.1) && (backToKw cpos (keywordEach [] X.env)).all (fun x => x.1.isSome)
      && decide ((e :: es).length + ([] : List Keyword).length + (if ([] : List Keyword).isEmpty then 0 else 1) < 30)) = true := by rfl)
    (hline : (apos.endLine == cpos.line) = true := by rfl) (hs : starEach (e :: es) X.env = (false, eval e X.env) :: starEach es X.env := by rfl) (hplain : (backTo cpos (starEach es X.env)).any (·.1) = false := by rfl) :
    PE X (.Call (.Attribute o name apos) (e :: es) [] cpos) (tE b W (mMut T f φ ψ)) := by
  refine weakE (pe_bw pa slot hty (hm b fit) ho ha hbase hfew hline hs hplain) fun σ H Q ⟨F, ρ, k, h⟩ => ?_
  have := run_mut hT k h
  rw [fit.K] at this
  exact this
end

/-! the methods -/
def sSplit : D → List D → Option AV
  | .str a, [.str c] => if (c.length == 0) = false ∧ a.length + 2 ≤ sizeLine then some (.ow (.lst ((Txt.split a c).map .str))) else none
  | _, _ => none
def sJoinL (a : Str) (l : List D) : Option AV := match strsOf l with
  | some ys => if (ys.map (·.length)).sum + ys.length * a.length ≤ 16777216 then some (.fz (.str (Txt.join a ys))) else none
  | none => none
def sJoin : D → List D → Option AV
  | .str a, [.lst l] => sJoinL a l
  | .str a, [.tup l] => sJoinL a l
  | _, _ => none
def sStarts : D → List D → Option AV
  | .str a, [.str c] => some (.fz (.bl (Txt.startswith a c)))
  | _, _ => none
def sRfind : D → List D → Option AV
  | .str a, [.str c] => some (.fz (.int (Txt.rfind a c)))
  | _, _ => none
def sCount : D → List D → Option AV
  | .str a, [.str c] => some (.fz (.int (Txt.count a c)))
  | _, _ => none
def isPl : D → Bool
  | .non => true
  | .bl _ => true
  | .int _ => true
  | .str _ => true
  | .tup _ => true
  | _ => false
def dGet : D → List D → Option AV
  | .dct kvs, [k] => (keyOf k).map fun kk => .fz ((getK kvs kk).getD .non)
  | .dct kvs, [k, x] => match keyOf k with
    | some kk => match getK kvs kk with
      | some d => some (.fz d)
      | none => if isPl x = true then some (.fz x) else none
    | none => none
  | _, _ => none
def lAppend : D → List D → Option (D × D)
  | .lst l, [x] => if l.length < sizeLine then some (.lst (l ++ [x]), .non) else none
  | _, _ => none
def lPop : D → List D → Option (D × D)
  | .lst l, [] => (l[l.length - 1]?).map fun x => (.lst l.dropLast, x)
  | .lst l, [.int i] => if -(2 ^ 63) ≤ i ∧ i < 2 ^ 63 then (seqIndex? i l.length).bind fun k => (l[k]?).map fun x => (.lst (l.eraseIdx k), x) else none
  | _, _ => none
def lClear : D → List D → Option (D × D)
  | .lst _, [] => some (.lst [], .non)
  | _, _ => none
def lReverse : D → List D → Option (D × D)
  | .lst l, [] => some (.lst l.reverse, .non)
  | _, _ => none
def dPop : D → List D → Option (D × D)
  | .dct kvs, [k] => (keyOf k).bind fun kk => (getK kvs kk).map fun x => (.dct (dropD kvs k), x)
  | _, _ => none
def dClear : D → List D → Option (D × D)
  | .dct _, [] => some (.dct [], .non)
  | _, _ => none
theorem MtR.orD {X : Cx} {id : String} {r r' : V → List V → Hp → VK → Prop} (h : MtR X id r) (h' : MtR X id r') : MtR X id (fun x xs H Q => r x xs H Q ∨ r' x xs H Q) := MtR.or h h'
theorem weakM {X : Cx} {id : String} {r r' : V → List V → Hp → VK → Prop} (h : MtR X id r) (i : ∀ x xs H Q, r' x xs H Q → r x xs H Q) : MtR X id r' := fun pins s σ H x xs v us Q I rx rxs q => h pins s σ H x xs v us Q I rx rxs (i _ _ _ _ q)
section
variable {X : Cx}
theorem md_split : MtD X "str.split" sSplit := by
  intro b fit
  refine weakM mt_split fun x xs H Q ⟨F, σ', ρ, d, ds, ok, r1, r2, g⟩ => ?_
  unfold sSplit at g
  split at g
  · split at g
    · rename_i hz
      obtain ⟨u, rfl, q⟩ := r2.one
      exact ⟨_, _, rStr r1, by rw [rStr q], hz.1, hz.2, gLst ok g (RepL.ofStrs _)⟩
    · exact g.elim
  · exact g.elim
theorem md_join : MtD X "str.join" sJoin := by
  intro b fit
  refine weakM mt_join fun x xs H Q ⟨F, σ', ρ, d, ds, ok, r1, r2, g⟩ => ?_
  unfold sJoin at g
  split at g
  · obtain ⟨u, rfl, q⟩ := r2.one
    obtain ⟨a, ys, rfl, e1, l1⟩ := RepD.lst ok.sub q
    unfold sJoinL at g
    split at g
    · rename_i zs ez
      split at g
      · rename_i hz
        have := l1.strs ez
        subst this
        exact ⟨_, a, zs, rStr r1, rfl, .inl (SqL.of e1), hz, gStr ok g⟩
      · exact g.elim
    · exact g.elim
  · obtain ⟨u, rfl, q⟩ := r2.one
    obtain ⟨a, ys, rfl, e1, l1⟩ := RepD.tup ok.sub q
    rw [fit.K] at e1
    unfold sJoinL at g
    split at g
    · rename_i zs ez
      split at g
      · rename_i hz
        have := l1.strs ez
        subst this
        exact ⟨_, a, zs, rStr r1, rfl, .inr e1, hz, gStr ok g⟩
      · exact g.elim
    · exact g.elim
  · exact g.elim
theorem md_starts : MtD X "str.startswith" sStarts := by
  intro b fit
  refine weakM mt_startswith fun x xs H Q ⟨F, σ', ρ, d, ds, ok, r1, r2, g⟩ => ?_
  unfold sStarts at g
  split at g
  · obtain ⟨u, rfl, q⟩ := r2.one
    exact ⟨_, _, rStr r1, by rw [rStr q], gBl ok g⟩
  · exact g.elim
theorem md_count : MtD X "str.count" sCount := by
  intro b fit
  refine weakM mt_count fun x xs H Q ⟨F, σ', ρ, d, ds, ok, r1, r2, g⟩ => ?_
  unfold sCount at g
  split at g
  · obtain ⟨u, rfl, q⟩ := r2.one
    exact ⟨_, _, rStr r1, by rw [rStr q], gInt ok g⟩
  · exact g.elim
theorem mt_dget (hu : X.A.units + 1 < cLine) : MtR X "dict.get" (fun x xs H Q => ∃ a y o, x = .ref a ∧ DGet H a y o ∧ ((xs = [y] ∧ Q (o.getD .non) H) ∨ ∃ d, xs = [y, d] ∧ Q (o.getD d) H)) := by
  intro pins s σ H x xs v us Q I rx rxs ⟨a, y, o, ex, g, q⟩
  subst ex
  cases rx
  rcases q with ⟨rfl, q⟩ | ⟨d, rfl, q⟩
  · obtain ⟨u, rfl, ru⟩ := vals1 rxs
    exact d_get1 hu I g ru fun w' s3 I3 rw' => ⟨_, H, I3, rw', q⟩
  · obtain ⟨u, u2, rfl, ru, ru2⟩ := vals2 rxs
    exact d_get2 hu I g ru ru2 fun w' s3 I3 rw' => ⟨_, H, I3, rw', q⟩
theorem md_get (hu : X.A.units + 1 < cLine) : MtD X "dict.get" dGet := by
  intro b fit
  refine weakM (mt_dget hu) fun x xs H Q ⟨F, σ', ρ, d, ds, ok, r1, r2, g⟩ => ?_
  unfold dGet at g
  split at g
  · rename_i kvs k
    obtain ⟨u, rfl, q⟩ := r2.one
    obtain ⟨a, hk, rfl, e1, l1⟩ := RepD.dct ok.sub r1
    cases ek : keyOf k with
    | none => rw [ek] at g; exact g.elim
    | some kk =>
      rw [ek] at g
      have ex := keyOf_rd q ek
      subst ex
      have hv := RepK.val kk l1
      refine ⟨a, _, valV hk kk, rfl, .inl ⟨hk, kk, e1, rfl, rfl⟩, .inl ⟨rfl, ?_⟩⟩
      change Gives b ρ σ' F (some (.fz ((getK kvs kk).getD .non))) Q at g
      cases eg : getK kvs kk with
      | none => rw [eg] at hv g; rw [hv]; exact gNon ok g
      | some d =>
        rw [eg] at hv g
        obtain ⟨v, ev, rv⟩ := hv
        rw [ev]; exact gFz ok g rv
  · rename_i kvs k x
    obtain ⟨u, u2, rfl, q, q2⟩ := r2.two
    obtain ⟨a, hk, rfl, e1, l1⟩ := RepD.dct ok.sub r1
    cases ek : keyOf k with
    | none => simp only [ek] at g; exact g.elim
    | some kk =>
      simp only [ek] at g
      have ex := keyOf_rd q ek
      subst ex
      have hv := RepK.val kk l1
      refine ⟨a, _, valV hk kk, rfl, .inl ⟨hk, kk, e1, rfl, rfl⟩, .inr ⟨u2, rfl, ?_⟩⟩
      cases eg : getK kvs kk with
      | none =>
        rw [eg] at hv; simp only [eg] at g; rw [hv]
        have fzx : ∀ {y : D}, Rd1 b F H y u2 → isPl y = true → Rep b.K b.mg F y u2 := fun {y} r hy => by
          rcases r with r | ⟨_, _, oa⟩
          · exact r
          · cases y <;> first
              | exact oa.elim
              | cases hy
        split at g
        · rename_i hy
          exact gFz ok g (fzx q2 hy)
        · exact g.elim
      | some d =>
        rw [eg] at hv; simp only [eg] at g
        obtain ⟨v, ev, rv⟩ := hv
        rw [ev]; exact gFz ok g rv
  · exact g.elim
theorem mu_append : MuD X "list.append" lAppend := by
  intro b fit
  refine weakM mt_append fun x xs H Q ⟨F, ds, a, d, ex, sb, n, oa, rs, g⟩ => ?_
  unfold lAppend at g
  split at g
  · rename_i d' r' h
    split at h
    · rename_i l y
      split at h
      · rename_i hz
        cases h
        obtain ⟨ys, e1, l1⟩ := oa
        unfold RepL at rs
        obtain ⟨w, t, rfl, q, rs⟩ := rs
        unfold RepL at rs
        subst rs
        refine ⟨a, ys, w, ex, rfl, e1, by rw [← l1.len]; exact hz, g _ _ ⟨_, upd_same, l1.snoc q⟩ (by unfold Rep; rfl)⟩
      · cases h
    · cases h
  · exact g.elim
theorem RepL.dropLast {K : PySem.W.Frag} {mg : Str → Option Value} {F : Hp} {ds : List D} {vs : List V} (r : RepL K mg F ds vs) : RepL K mg F ds.dropLast vs.dropLast := by
  rw [List.dropLast_eq_take, List.dropLast_eq_take, r.len]
  exact r.take _
theorem RepL.eraseIdx {K : PySem.W.Frag} {mg : Str → Option Value} {F : Hp} : ∀ (i : Nat) {ds : List D} {vs : List V}, RepL K mg F ds vs → RepL K mg F (ds.eraseIdx i) (vs.eraseIdx i)
  | _, [], _, r => by unfold RepL at r; subst r; show RepL K mg F [] []; unfold RepL; rfl
  | 0, d :: ds, _, r => by
    unfold RepL at r
    obtain ⟨v, s, rfl, _, l⟩ := r
    exact l
  | i + 1, d :: ds, _, r => by
    unfold RepL at r
    obtain ⟨v, s, rfl, q, l⟩ := r
    show RepL K mg F (d :: ds.eraseIdx i) (v :: s.eraseIdx i)
    unfold RepL
    exact ⟨v, _, rfl, q, RepL.eraseIdx i l⟩
theorem RepL.reverse {K : PySem.W.Frag} {mg : Str → Option Value} {F : Hp} : ∀ {ds : List D} {vs : List V}, RepL K mg F ds vs → RepL K mg F ds.reverse vs.reverse
  | [], _, r => by unfold RepL at r; subst r; show RepL K mg F [] []; unfold RepL; rfl
  | d :: ds, _, r => by
    unfold RepL at r
    obtain ⟨v, s, rfl, q, l⟩ := r
    rw [List.reverse_cons, List.reverse_cons]
    exact (RepL.reverse l).snoc q
theorem mu_pop : MuD X "list.pop" lPop := by
  intro b fit
  refine weakM (MtR.orD mt_pop mt_popAt) fun x xs H Q ⟨F, ds, a, d, ex, sb, n, oa, rs, g⟩ => ?_
  unfold lPop at g
  split at g
  · rename_i d' r' h
    split at h
    · rename_i l
      obtain ⟨ys, e1, l1⟩ := oa
      unfold RepL at rs
      subst rs
      cases e : l[l.length - 1]? with
      | none => rw [e] at h; cases h
      | some y =>
        rw [e] at h; cases h
        obtain ⟨w, ew, rw'⟩ := l1.get e
        exact .inl ⟨a, ys, w, ex, rfl, e1, by rw [← l1.len]; exact ew, g _ _ ⟨_, upd_same, l1.dropLast⟩ rw'⟩
    · rename_i l i
      split at h
      · rename_i hi
        obtain ⟨ys, e1, l1⟩ := oa
        unfold RepL at rs
        obtain ⟨w, t, rfl, q, rs⟩ := rs
        unfold RepL at rs
        subst rs
        unfold Rep at q
        subst q
        cases e : seqIndex? i l.length with
        | none => rw [e] at h; cases h
        | some m =>
          rw [e] at h
          change (l[m]?).map (fun x => (D.lst (l.eraseIdx m), x)) = some (d', r') at h
          cases e2 : l[m]? with
          | none => rw [e2] at h; cases h
          | some y =>
            rw [e2] at h; cases h
            obtain ⟨w, ew, rw'⟩ := l1.get e2
            exact .inr ⟨a, ys, i, m, w, ex, rfl, e1, hi.1, hi.2, by rw [← l1.len]; exact e, ew, g _ _ ⟨_, upd_same, l1.eraseIdx m⟩ rw'⟩
      · cases h
    · cases h
  · exact g.elim
theorem mu_clear : MuD X "list.clear" lClear := by
  intro b fit
  refine weakM mt_clear fun x xs H Q ⟨F, ds, a, d, ex, sb, n, oa, rs, g⟩ => ?_
  unfold lClear at g
  split at g
  · rename_i d' r' h
    split at h
    · cases h
      obtain ⟨ys, e1, l1⟩ := oa
      unfold RepL at rs
      subst rs
      exact ⟨a, ys, ex, rfl, e1, g _ _ ⟨_, upd_same, by unfold RepL; rfl⟩ (by unfold Rep; rfl)⟩
    · cases h
  · exact g.elim
theorem mu_reverse : MuD X "list.reverse" lReverse := by
  intro b fit
  refine weakM mt_reverse fun x xs H Q ⟨F, ds, a, d, ex, sb, n, oa, rs, g⟩ => ?_
  unfold lReverse at g
  split at g
  · rename_i d' r' h
    split at h
    · cases h
      obtain ⟨ys, e1, l1⟩ := oa
      unfold RepL at rs
      subst rs
      exact ⟨a, ys, ex, rfl, e1, g _ _ ⟨_, upd_same, l1.reverse⟩ (by unfold Rep; rfl)⟩
    · cases h
  · exact g.elim
theorem mu_dclear : MuD X "dict.clear" dClear := by
  intro b fit
  refine weakM mtd_clear fun x xs H Q ⟨F, ds, a, d, ex, sb, n, oa, rs, g⟩ => ?_
  unfold dClear at g
  split at g
  · rename_i d' r' h
    split at h
    · cases h
      obtain ⟨ys, e1, l1⟩ := oa
      unfold RepL at rs
      subst rs
      exact ⟨a, ys, ex, rfl, e1, g _ _ ⟨_, upd_same, by unfold RepK; rfl⟩ (by unfold Rep; rfl)⟩
    · cases h
  · exact g.elim
theorem mt_dpop : MtR X "dict.pop" (fun x xs H Q => ∃ a kvs k v, x = .ref a ∧ xs = [kV k] ∧ H a = some (.dK kvs) ∧ valV kvs k = some v ∧ Q v (upd H a (.dK (dropK kvs k)))) := by
  intro pins s σ H x xs v us Q I rx rxs ⟨a, kvs, k, w, ex, exs, ea, l, q⟩
  subst ex exs
  cases rx
  obtain ⟨u, rfl, ru⟩ := vals1 rxs
  exact d_pop I ea ru l (.inl rfl) fun w' s3 I3 rw' => ⟨w, _, I3, rw', q⟩
theorem mu_dpop : MuD X "dict.pop" dPop := by
  intro b fit
  refine weakM mt_dpop fun x xs H Q ⟨F, ds, a, d, ex, sb, n, oa, rs, g⟩ => ?_
  unfold dPop at g
  split at g
  · rename_i d' r' h
    split at h
    · rename_i kvs k
      cases ek : keyOf k with
      | none => rw [ek] at h; cases h
      | some kk =>
        rw [ek] at h
        change (getK kvs kk).map (fun x => (D.dct (dropD kvs k), x)) = some (d', r') at h
        obtain ⟨ys, e1, l1⟩ := oa
        unfold RepL at rs
        obtain ⟨w, t, rfl, q, rs⟩ := rs
        unfold RepL at rs
        subst rs
        have ek' := keyOf_rd (H := H) (.inl q) ek
        subst ek'
        have hv := RepK.val kk l1
        cases eg : getK kvs kk with
        | none => rw [eg] at h; cases h
        | some y =>
          rw [eg] at h hv
          cases h
          obtain ⟨v, ev, rv⟩ := hv
          exact ⟨a, ys, kk, v, ex, rfl, e1, ev, g _ _ ⟨_, upd_same, l1.drop ek⟩ rv⟩
    · cases h
  · exact g.elim
end
end DL

namespace DL
open PySem PySem.Spec L2

/-! ### targets, whatever they do -/
def ThenU {α : Type} (b : Bs) (W : WX) (F : Hp) (r : R α) (Q : α → Env → St → Hp → Hp → Prop) : Prop := match r with
  | .ok a ρ' => ∀ σ' F' H', Ok b ρ' F' H' σ' → Same F F' → Q a ρ' σ' F' H'
  | .ex e ρ' => ∀ c dd σ' F' H', Ok b ρ' F' H' σ' → Same F F' → ExR b F' e c dd → W c dd σ' H'
  | .no => False
section
variable {α β : Type} {b : Bs} {W : WX} {σ : St} {ρ : DL.Env} {F F1 H : Hp}
theorem ThenU.later {r : R α} {Q : α → DL.Env → St → Hp → Hp → Prop} (h : ThenU b W F r Q) (s : Same F F1) : ThenU b W F1 r Q := by
  cases r with
  | no => exact h
  | ex x ρ' => exact fun c dd σ' F' H' k s' => h c dd σ' F' H' k (s.trans s')
  | ok a ρ' => exact fun σ' F' H' k s' => h σ' F' H' k (s.trans s')
theorem ThenU.imp {r : R α} {Q Q' : α → DL.Env → St → Hp → Hp → Prop} (h : ThenU b W F r Q) (i : ∀ a ρ' σ' F' H', Ok b ρ' F' H' σ' → Same F F' → Q a ρ' σ' F' H' → Q' a ρ' σ' F' H') : ThenU b W F r Q' := by
  cases r with
  | no => exact h
  | ex x ρ' => exact h
  | ok a ρ' => exact fun σ' F' H' k s => i a ρ' σ' F' H' k s (h σ' F' H' k s)
/-- a store first, then the rest -/
theorem ThenU.bndU {m : M α} {f : α → M β} {Q : β → DL.Env → St → Hp → Hp → Prop} (h : ThenU b W F (m.bnd f ρ) Q) : ThenU b W F (m ρ) fun a ρ' σ' F' H' => Ok b ρ' F' H' σ' ∧ ThenU b W F' (f a ρ') Q := by
  unfold M.bnd at h
  cases e : m ρ with
  | no => rw [e] at h; exact h
  | ex x ρ' =>
    rw [e] at h
    exact h
  | ok a ρ' =>
    rw [e] at h
    exact fun σ' F' H' k s => ⟨k, ThenU.later (show ThenU b W F (f a ρ') Q from h) s⟩
/-- an expression, then the rest of a store -/
theorem ThenU.bnd {m : M α} {f : α → M β} {Q : β → DL.Env → St → Hp → Hp → Prop} (h : ThenU b W F (m.bnd f ρ) Q) : After b W σ F (m ρ) fun a ρ' F' H' => Ok b ρ' F' H' σ ∧ ThenU b W F' (f a ρ') Q := by
  unfold M.bnd at h
  cases e : m ρ with
  | no => rw [e] at h; exact h
  | ex x ρ' =>
    rw [e] at h
    exact fun c dd F' H' k s q => h c dd σ F' H' k s q
  | ok a ρ' =>
    rw [e] at h
    exact fun F' H' k s => ⟨k, ThenU.later (show ThenU b W F (f a ρ') Q from h) s⟩
theorem Then.bndU {m : M α} {f : α → M Ctl} {D : Ends} (h : Then b W F (m.bnd f ρ) D) : ThenU b W F (m ρ) fun a ρ' σ' F' H' => Ok b ρ' F' H' σ' ∧ Then b W F' (f a ρ') D := by
  unfold M.bnd at h
  cases e : m ρ with
  | no => rw [e] at h; exact h
  | ex x ρ' =>
    rw [e] at h
    exact h
  | ok a ρ' =>
    rw [e] at h
    exact fun σ' F' H' k s => ⟨k, Then.later (show Then b W F (f a ρ') D from h) s⟩
theorem ThenU.read {av : AV} {v : V} {f : D → M α} {Q : α → DL.Env → St → Hp → Hp → Prop} (k : Ok b ρ F H σ) (r : RepA b F H σ ρ av v) (h : ThenU b W F ((rd av).bnd f ρ) Q) : ∃ d, Rd1 b F H d v ∧ ThenU b W F (f d ρ) Q := by
  unfold M.bnd at h
  cases e : rd av ρ with
  | no => rw [e] at h; exact h.elim
  | ex x ρ' =>
    cases av with
    | fz d => cases e
    | ow d => cases e
    | sl i =>
      dsimp only [rd] at e
      split at e <;> cases e
  | ok d ρ' =>
    rw [e] at h
    obtain ⟨rfl, q⟩ := k.read r e
    exact ⟨d, q, h⟩
theorem ThenU.froze {av : AV} {v : V} {f : D → M α} {Q : α → DL.Env → St → Hp → Hp → Prop} (k : Ok b ρ F H σ) (r : RepA b F H σ ρ av v) (h : ThenU b W F ((frz av).bnd f ρ) Q) :
    ∃ d ρ2 F2, Ok b ρ2 F2 H σ ∧ Same F F2 ∧ Rep b.K b.mg F2 d v ∧ ThenU b W F2 (f d ρ2) Q := by
  unfold M.bnd at h
  cases e1 : frz av ρ with
  | no => rw [e1] at h; exact h.elim
  | ex x ρ2 =>
    cases av with
    | fz d => cases e1
    | ow d => cases e1
    | sl i =>
      dsimp only [frz] at e1
      split at e1 <;> cases e1
  | ok d ρ2 =>
    rw [e1] at h
    obtain ⟨F2, k2, s2, q2⟩ := k.froze r e1
    exact ⟨d, ρ2, F2, k2, s2, q2, ThenU.later (show ThenU b W F (f d ρ2) Q from h) s2⟩
end
def tGM (b : Bs) (W : WX) (ψ : D → M Unit) : TG := fun v σ H Q => ∃ F ρ d, Ok b ρ F H σ ∧ Rep b.K b.mg F d v ∧ ThenU b W F (ψ d ρ) fun _ _ σ' _ H' => Q σ' H'
def tGMs (b : Bs) (W : WX) (ψ : List D → M Unit) : TGs := fun vs σ H Q => ∃ F ρ ds, Ok b ρ F H σ ∧ RepL b.K b.mg F ds vs ∧ ThenU b W F (ψ ds ρ) fun _ _ σ' _ H' => Q σ' H'
def gmNil : List D → M Unit
  | [] => M.ret ()
  | _ => M.stuck
def gmCons (ψ : D → M Unit) (χ : List D → M Unit) : List D → M Unit
  | d :: ds => (ψ d).bnd fun _ => χ ds
  | [] => M.stuck
def gmTup (n : Nat) (χ : List D → M Unit) : D → M Unit
  | .tup ds => if ds.length = n then χ ds else M.stuck
  | _ => M.stuck
/-- o[k] = d where a slot holds o -/
def setD : D → D → D → Option D
  | .lst l, .int i, x => (ixN l.length i).map fun j => .lst (l.set j x)
  | .dct kvs, k, x => if (keyOf k).isSome ∧ kvs.length < sizeLine then some (.dct (putD kvs k x)) else none
  | _, _, _ => none
def putAt (av : AV) (k x : D) : M Unit := match av with
  | .sl i => fun ρ => match ρ[i]? with
    | some s => if s.held then match s.data? with
        | some d => match setD d k x with
          | some d' => .ok () (ρ.set i (s.put d'))
          | none => .no
        | none => .no
      else .no
    | none => .no
  | _ => M.stuck
def gmSub (φ ψ : M AV) : D → M Unit := fun x => φ.bnd fun a => ψ.bnd fun i => (rd (stab i)).bnd fun k => putAt (stab a) k x
def mAsgM (φ : M AV) (ψ : D → M Unit) : M Ctl := φ.bnd fun av => (frz av).bnd fun d => (ψ d).bnd fun _ => M.ret .nx
section
variable {X : Cx} {b : Bs} {W : WX} {pos : Pos}
theorem dgm_name {i : Nat} {x : Str} (hN : X.N.Nodup) (hi : X.N[i]? = some x) (hx : Loc X.env.scope x) (hf : X.fn x = true ∨ X.env.scope.names.lookup x = some .local := by first | exact .inl rfl | exact .inr rfl | assumption) : PG X (.Name x pos) (tGM b W (setFz i)) := by
  refine weakG (pg_name hN hi hx hf) fun v σ H Q ⟨F, ρ, d, k, r, h⟩ => ?_
  cases e : setFz i d ρ with
  | no => rw [e] at h; exact h.elim
  | ex x ρ' =>
    unfold setFz at e
    split at e
    · split at e <;> cases e
    · cases e
  | ok u ρ' =>
    rw [e] at h
    exact h _ F H (setFz_ok k r e) (Same.refl _)
theorem dgm_nil : PGs X [] (tGMs b W gmNil) := by
  refine weakGs pgs_nil fun v σ H Q ⟨F, ρ, ds, k, r, h⟩ => ?_
  cases ds with
  | nil =>
    unfold RepL at r
    exact ⟨r, h σ F H k (Same.refl _)⟩
  | cons d ds => exact h.elim
theorem dgm_cons {e : Expr} {es : List Expr} {ψ : D → M Unit} {χ : List D → M Unit} (h1 : PG X e (tGM b W ψ)) (h2 : PGs X es (tGMs b W χ)) (hs : (assignEach (e :: es) X.env).map (·.2) = assign e X.env :: (assignEach es X.env).map (·.2) := by rfl) : PGs X (e :: es) (tGMs b W (gmCons ψ χ)) := by
  refine weakGs (pgs_cons h1 h2 hs) fun v σ H Q ⟨F, ρ, ds, k, r, h⟩ => ?_
  cases ds with
  | nil => exact h.elim
  | cons d ds =>
    unfold RepL at r
    obtain ⟨v, vs, rfl, q1, q2⟩ := r
    exact ⟨v, vs, rfl, F, ρ, d, k, q1, (ThenU.bndU h).imp fun _ ρ' σ' F' H' _ s' ⟨k', h'⟩ => ⟨F', ρ', ds, k', q2.mono s', h'⟩⟩
theorem dgm_tup {es : List Expr} {j : Nat} {χ : List D → M Unit} {n : Nat} (fit : Fit X b) (hc : X.calm = true) (h : PGs X es (tGMs b W χ)) (hn : (assignEach es X.env).length = n := by rfl) (hst : (assignEach es X.env).findIdx? (·.1) = none := by rfl) :
    PG X (.Tuple es j pos) (tGM b W (gmTup n χ)) := by
  refine weakG (pg_tup hc h hn hst) fun v σ H Q ⟨F, ρ, d, k, r, h⟩ => ?_
  unfold gmTup at h
  split at h
  · split at h
    · rename_i hl
      unfold Rep at r
      obtain ⟨a, xs, rfl, q, l⟩ := r
      rw [fit.K] at q
      exact ⟨a, xs, rfl, k.sub.sqT q, l.len.symm.trans hl, F, ρ, _, k, l, h⟩
    · exact h.elim
  · exact h.elim
theorem weakPSet {t t' : TSet} (h : PSet X t) (i : ∀ o k v H Q, t' o k v H Q → t o k v H Q) : PSet X t' := fun pins s σ H o k v ov iv u Q I ro ri rv q => h pins s σ H o k v ov iv u Q I ro ri rv (i _ _ _ _ _ q)
theorem PSet.or {t t' : TSet} (h : PSet X t) (h' : PSet X t') : PSet X (fun o k v H Q => t o k v H Q ∨ t' o k v H Q) := by
  intro pins s σ H o k v ov iv u Q I ro ri rv q
  rcases q with q | q
  · exact h pins s σ H o k v ov iv u Q I ro ri rv q
  · exact h' pins s σ H o k v ov iv u Q I ro ri rv q
def rSetX : TSet := fun o i v H Q => rSetL o i v H Q ∨ rSetD o i v H Q
theorem RepL.setIx {K : PySem.W.Frag} {mg : Str → Option Value} {F : Hp} {d : D} {v : V} (rv : Rep K mg F d v) : ∀ (j : Nat) {ds : List D} {vs : List V}, RepL K mg F ds vs → RepL K mg F (ds.set j d) (vs.set j v)
  | _, [], _, r => by unfold RepL at r; subst r; show RepL K mg F [] []; unfold RepL; rfl
  | 0, c :: ds, _, r => by
    unfold RepL at r
    obtain ⟨u, s, rfl, _, l⟩ := r
    show RepL K mg F (d :: ds) (v :: s)
    unfold RepL
    exact ⟨v, s, rfl, rv, l⟩
  | j + 1, c :: ds, _, r => by
    unfold RepL at r
    obtain ⟨u, s, rfl, q, l⟩ := r
    show RepL K mg F (c :: ds.set j d) (u :: s.set j v)
    unfold RepL
    exact ⟨u, _, rfl, q, RepL.setIx rv j l⟩
/-- the store itself -/
theorem set_data {F H : Hp} {a : Addr} {c c' k x : D} {y v : V} {Q : Hp → Prop} (sb : Sub F H) (oa : OwnAt b.K b.mg F H a c) (rk : RepD b.K b.mg F H k y) (rx : Rep b.K b.mg F x v) (h : setD c k x = some c') (q : ∀ o', OwnAt b.K b.mg F (upd H a o') a c' → Q (upd H a o')) : rSetX (.ref a) y v H Q := by
  unfold setD at h
  split at h
  · rename_i l i
    obtain ⟨xs, e1, l1⟩ := oa
    cases e : ixN l.length i with
    | none => rw [e] at h; cases h
    | some j =>
      rw [e] at h; cases h
      have : y = .int i := (RepD.flat (d := .int i) rfl rk).1
      exact .inl ⟨a, xs, i, j, rfl, this, e1, by rw [← l1.len]; exact e, q _ ⟨_, upd_same, l1.setIx rx j⟩⟩
  · split at h
    · rename_i hk
      cases h
      obtain ⟨hs, hz⟩ := hk
      obtain ⟨kk, ek⟩ := Option.isSome_iff_exists.mp hs
      obtain ⟨hk, e1, l1⟩ := oa
      have := keyOf_rd rk ek
      subst this
      exact .inr ⟨a, _, rfl, DPut.k e1 (by rw [← l1.len]; exact hz), q _ ⟨_, upd_same, l1.put ek rx⟩⟩
    · cases h
  · cases h
theorem ThenU.put {σ : St} {F H : Hp} {ρ : DL.Env} {av : AV} {o y v : V} {k x : D} {Q : St → Hp → Prop} (ok : Ok b ρ F H σ) (r : RepA b F H σ ρ (stab av) o) (rk : Rd1 b F H k y) (rx : Rep b.K b.mg F x v)
    (h : ThenU b W F (putAt (stab av) k x ρ) fun _ _ σ' _ H' => Q σ' H') : rSetX o y v H fun H' => Q σ H' := by
  cases av with
  | fz d => exact h.elim
  | ow d => exact h.elim
  | sl i =>
    have r : σ[i]? = some (some o) := r
    dsimp only [stab, putAt] at h
    cases e : ρ[i]? with
    | none => rw [e] at h; exact h.elim
    | some s =>
      rw [e] at h
      dsimp only at h
      cases hh : s.held with
      | false => rw [hh] at h; exact h.elim
      | true =>
        rw [hh] at h
        simp only [if_true] at h
        have z := ok.slot i s e
        rw [r] at z
        have go : ∀ d a, o = .ref a → s.data? = some d → OwnAt b.K b.mg F H a d → rSetX o y v H fun H' => Q σ H' := fun d a ex hd oa => by
          subst ex
          rw [hd] at h
          dsimp only at h
          cases ef : setD d k x with
          | none => rw [ef] at h; exact h.elim
          | some d' =>
            rw [ef] at h
            exact set_data ok.sub oa rk rx ef fun o' oa' => h σ F _ (ok.mut e hh r oa') (Same.refl _)
        cases s with
        | un => cases hh
        | fz d => cases hh
        | ow d => obtain ⟨a, ea, n, _, oa⟩ := z; exact go d a (Option.some.inj ea) rfl oa
        | bo d => obtain ⟨a, ea, n, _, oa⟩ := z; exact go d a (Option.some.inj ea) rfl oa
theorem runUE {α : Type} {φ : M AV} {f : AV → M α} {σ : St} {H F : Hp} {ρ : DL.Env} {Q : α → DL.Env → St → Hp → Hp → Prop} {R : V → Hp → Prop} (k : Ok b ρ F H σ) (h : ThenU b W F (φ.bnd f ρ) Q)
    (i : ∀ av v ρ1 F1 H1, Ok b ρ1 F1 H1 σ → Same F F1 → RepA b F1 H1 σ ρ1 av v → ThenU b W F1 (f av ρ1) Q → R v H1) : tE b W φ σ H R :=
  ⟨F, ρ, k, (ThenU.bnd h).imp fun av ρ' F' H' k' s q v r => i av v ρ' F' H' k' s r q.2⟩
theorem dgm_sub {o i : Expr} {φ ψ : M AV} (fit : Fit X b) (hu : X.A.units + 64 < cLine) (ho : PE X o (tE b W φ)) (hi : PE X i (tE b W ψ))
    (ha : ∀ v, assign (.Subscript o i pos) X.env v = (do
      let ov ← holding [v] (eval o X.env)
      let iv ← holding [v, ov] (eval i X.env)
      standAt pos
      holding [v, ov, iv] (setItem ov iv v)
      release [v, ov, iv] []) := by intro _; rfl) : PG X (.Subscript o i pos) (tGM b W (gmSub φ ψ)) := by
  refine weakG (pg_sub (t := rSetX) ho hi (PSet.or set_list (set_dict (by omega))) ha) fun v σ H Q ⟨F, ρ, d, k, r, h⟩ => ?_
  refine runUE k h fun av x ρ1 F1 H1 k1 s1 r1 h1 => ?_
  refine runUE k1 h1 fun iv y ρ2 F2 H2 k2 s2 r2 h2 => ?_
  obtain ⟨F3, k3, s3, r3⟩ := k2.stab r2
  obtain ⟨kd, q3, h3⟩ := ThenU.read k3 r3 (h2.later s3)
  -- the object: stabbed at the time of its reading
  cases av with
  | fz d0 => exact h3.elim
  | ow d0 => exact h3.elim
  | sl j => exact ThenU.put (av := .sl j) k3 r1 q3 (r.mono (s1.trans (s2.trans s3))) h3
theorem ds_asgM {tg e : Expr} {φ : M AV} {ψ : D → M Unit} (he : PE X e (tE b W φ)) (hg : PG X tg (tGM b W ψ)) (hs : swapsWithSole [tg] e pos.line X.env = pure false := by rfl) (hw : swappedStores [tg] e X.env = pure none := by rfl)
    (h1 : (assignEach [tg] X.env).map (·.2) = [assign tg X.env] := by rfl) : PS X (.Assign [tg] e pos) (tS b W (mAsgM φ ψ)) := by
  refine weakS (ps_asg he hg hs hw h1) fun D σ H ⟨F, ρ, k, h⟩ => ?_
  refine runSE k h fun av v ρ1 F1 H1 k1 s1 r1 h1 => ?_
  obtain ⟨d, ρ2, F2, k2, s2, q2, h2⟩ := Then.froze k1 r1 h1
  exact ⟨F2, ρ2, d, k2, q2, (Then.bndU h2).imp fun _ ρ' σ' F' H' _ _ ⟨k', h'⟩ => h' σ' F' H' k' (Same.refl _)⟩
end

/-- an object of nobody is changed -/
theorem Ok.poke {b : Bs} {σ : St} {ρ : DL.Env} {F H : Hp} {p : Addr} {o : HO} (k : Ok b ρ F H σ) (h0 : b.H_0 p = none) (hF : F p = none) (ap : Apart ρ σ p) (np : ∀ q ∈ b.P, q.1 ≠ p) : Ok b ρ F (upd H p o) σ := by
  refine ⟨fun x u ex => ?_, fun c u e0 hb => ?_, k.ext, k.new, k.len, fun j t ej => ?_, k.sep, k.bor, fun q hq => ?_⟩
  · rw [upd_ne (ne_of_none ex hF)]; exact k.sub x u ex
  · rw [upd_ne (ne_of_none e0 h0)]; exact k.old c u e0 hb
  · have w := k.slot j t ej
    cases t with
    | un => trivial
    | fz d => exact w
    | ow d =>
      obtain ⟨c, ec, n, n0, oc⟩ := w
      exact ⟨c, ec, n, n0, oc.mono (Same.refl _) fun u q => by rw [upd_ne (fun z => ap j _ ej rfl (by rw [← z]; exact getD_ref ec))]; exact q⟩
    | bo d =>
      obtain ⟨c, ec, n, n0, oc⟩ := w
      exact ⟨c, ec, n, n0, oc.mono (Same.refl _) fun u q => by rw [upd_ne (fun z => ap j _ ej rfl (by rw [← z]; exact getD_ref ec))]; exact q⟩
  · obtain ⟨h1, h2, h3⟩ := k.prot q hq
    exact ⟨by rw [upd_ne (np q hq)]; exact h1, h2, h3⟩
/-- stores into names, from the left -/
def isSl : AV → Bool
  | .sl _ => true
  | _ => false
def mAsgs : List Nat → List AV → M Unit
  | [], [] => M.ret ()
  | i :: is, a :: as => if isSl a then M.stuck else (asg i a).bnd fun _ => mAsgs is as
  | _, _ => M.stuck
def setAll : List Nat → List V → St → St
  | i :: is, v :: vs, σ => setAll is vs (σ.set i (some v))
  | _, _, σ => σ
section
variable {X : Cx} {b : Bs} {W : WX} {pos : Pos}
theorem asg_run {ρ ρ' : DL.Env} {F H : Hp} {σ : St} {i : Nat} {av : AV} {v : V} (k : Ok b ρ F H σ) (r : RepA b F H σ ρ av v) (hs : isSl av = false) (h : asg i av ρ = .ok () ρ') : Ok b ρ' F H (σ.set i (some v)) ∧ ∃ s', ρ' = ρ.set i s' ∧ (s'.held = true → ∃ d, av = .ow d) := by
  cases av with
  | sl j => cases hs
  | fz d =>
    refine ⟨setFz_ok k r h, .fz d, ?_, fun q => by cases q⟩
    have h : setFz i d ρ = .ok () ρ' := h
    unfold setFz at h
    split at h
    · split at h
      · cases h
      · cases h; rfl
    · cases h
  | ow d =>
    obtain ⟨a, rfl, n, n0, oa, ap⟩ := r
    dsimp only [DL.asg] at h
    cases e : ρ[i]? with
    | none => rw [e] at h; cases h
    | some s =>
      rw [e] at h
      cases hb : isBo s with
      | true => simp only [hb] at h; cases h
      | false =>
        simp only [hb] at h
        cases h
        refine ⟨k.setSlot (s' := .ow d) e hb rfl ⟨a, rfl, n, n0, oa⟩ (fun _ c ec => ?_), .ow d, rfl, fun _ => ⟨d, rfl⟩⟩
        cases ec
        exact ap
theorem asgs_step {i : Nat} {av : AV} {is : List Nat} {avs : List AV} {ρ : DL.Env} {r : R Unit} (h : mAsgs (i :: is) (av :: avs) ρ = r) (hr : r ≠ .no) : isSl av = false ∧ ((asg i av).bnd fun _ => mAsgs is avs) ρ = r := by
  unfold mAsgs at h
  cases e : isSl av with
  | true => rw [if_pos e] at h; exact absurd h.symm hr
  | false => rw [if_neg (by rw [e]; exact Bool.false_ne_true)] at h; exact ⟨rfl, h⟩
theorem asgs_nosl : ∀ {is : List Nat} {avs : List AV} {ρ ρ' : DL.Env}, mAsgs is avs ρ = .ok () ρ' → ∀ a ∈ avs, isSl a = false
  | [], [], _, _, _, a, h => by cases h
  | [], _ :: _, _, _, h, _, _ => by cases h
  | _ :: _, [], _, _, h, _, _ => by cases h
  | i :: is, av :: avs, ρ, ρ', h, a, ha => by
    obtain ⟨hs, h⟩ := asgs_step h (fun z => by cases z)
    rcases List.mem_cons.mp ha with rfl | ha
    · exact hs
    · obtain ⟨u, ρ1, _, e2⟩ := bnd_inv h
      exact asgs_nosl e2 a ha
theorem asgs_run : ∀ {is : List Nat} {avs : List AV} {vs : List V} {ρ ρ' : DL.Env} {F H : Hp} {σ : St}, Ok b ρ F H σ → RepR b F H σ ρ avs vs → mAsgs is avs ρ = .ok () ρ' → Ok b ρ' F H (setAll is vs σ) ∧ is.length = vs.length
  | [], _, _, _, _, _, _, _, k, .nil, h => by cases h; exact ⟨k, rfl⟩
  | i :: is, _, _, _, _, _, _, _, k, .nil, h => by cases h
  | [], _, _, _, _, _, _, _, k, .cons _ _ _, h => by cases h
  | i :: is, av :: avs, v :: vs, ρ, ρ', F, H, σ, k, .cons r hn t, h => by
    have hsl := asgs_nosl h
    obtain ⟨hs, h⟩ := asgs_step h (fun z => by cases z)
    obtain ⟨u, ρ1, e1, e2⟩ := bnd_inv h
    obtain ⟨k1, s', es, hh⟩ := asg_run k r hs e1
    have mono : ∀ {avs : List AV} {vs : List V}, (∀ a ∈ avs, isSl a = false) → (∀ d, av = .ow d → ∀ a, v = .ref a → a ∉ ows avs vs) → RepR b F H σ ρ avs vs → RepR b F H (σ.set i (some v)) ρ1 avs vs := by
      intro avs vs hsl hn t
      induction t with
      | nil => exact .nil
      | @cons av' avs v' vs r' hn' t' ih =>
        refine .cons ?_ hn' (ih (fun a ha => hsl a (List.mem_cons_of_mem _ ha)) fun d ed a ea hm => hn d ed a ea (by
          cases av' with
          | ow x =>
            cases v' with
            | ref c => exact List.mem_cons_of_mem _ hm
            | _ => exact hm
          | fz x => cases v' <;> exact hm
          | sl x => cases v' <;> exact hm))
        cases av' with
        | sl j =>
          have := hsl _ List.mem_cons_self
          cases this
        | fz d => exact r'
        | ow d =>
          obtain ⟨c, ec, n, n0, oa, ap, np⟩ := r'
          refine ⟨c, ec, n, n0, oa, fun j t ej ht q => ?_, np⟩
          rw [es] at ej
          rcases set_get ej with ⟨rfl, hlt, rfl⟩ | ⟨hj, ej'⟩
          · obtain ⟨d0, e0⟩ := hh ht
            have hl : j < σ.length := by rw [← k.len]; exact hlt
            rw [List.getElem?_set_self hl] at q
            have ev : v = .ref c := Option.some.inj (Option.some.inj q)
            subst ec
            exact hn d0 e0 c ev (show c ∈ c :: ows avs vs from List.mem_cons_self)
          · rw [List.getElem?_set_ne (Ne.symm hj)] at q
            exact ap j t ej' ht q
    obtain ⟨k2, hl⟩ := asgs_run k1 (mono (fun a ha => hsl a (List.mem_cons_of_mem _ ha)) hn t) e2
    exact ⟨k2, by rw [List.length_cons, List.length_cons, hl]⟩
theorem asgs_noex : ∀ {is : List Nat} {avs : List AV} {ρ ρ' : DL.Env} {x : Exn}, mAsgs is avs ρ = .ex x ρ' → False
  | [], [], _, _, _, h => by cases h
  | [], _ :: _, _, _, _, h => by cases h
  | _ :: _, [], _, _, _, h => by cases h
  | i :: is, a :: as, ρ, ρ', x, h => by
    obtain ⟨hs, h⟩ := asgs_step h (fun z => by cases z)
    unfold M.bnd at h
    cases e : asg i a ρ with
    | no => rw [e] at h; cases h
    | ex y ρ1 =>
      cases a with
      | sl j => cases hs
      | fz d =>
        have e : setFz i d ρ = .ex y ρ1 := e
        unfold setFz at e
        split at e
        · split at e <;> cases e
        · cases e
      | ow d =>
        dsimp only [DL.asg] at e
        split at e
        · split at e <;> cases e
        · cases e
    | ok u ρ1 =>
      rw [e] at h
      exact asgs_noex h
def mPar (is : List Nat) (φ : M (List AV)) : M Ctl := φ.bnd fun avs => (mAsgs is avs).bnd fun _ => M.ret .nx
theorem runSR {φ : M (List AV)} {f : List AV → M Ctl} {σ : St} {H F : Hp} {ρ : DL.Env} {D : Ends} {R : List V → Hp → Prop} (k : Ok b ρ F H σ) (h : Then b W F (φ.bnd f ρ) D)
    (i : ∀ avs vs ρ1 F1 H1, Ok b ρ1 F1 H1 σ → Same F F1 → RepR b F1 H1 σ ρ1 avs vs → Then b W F1 (f avs ρ1) D → R vs H1) : tR W φ b σ H R :=
  ⟨F, ρ, k, h.bnd.imp fun av ρ' F' H' k' s q v r => i av v ρ' F' H' k' s r q.2⟩
theorem Then.asgs {is : List Nat} {avs : List AV} {vs : List V} {σ : St} {F H : Hp} {ρ : DL.Env} {D : Ends} (k : Ok b ρ F H σ) (r : RepR b F H σ ρ avs vs) (h : Then b W F (((mAsgs is avs).bnd fun _ => M.ret .nx) ρ) D) : is.length = vs.length ∧ D.nx (setAll is vs σ) H := by
  unfold M.bnd at h
  cases e : mAsgs is avs ρ with
  | no => rw [e] at h; exact h.elim
  | ex x ρ' => exact (asgs_noex e).elim
  | ok u ρ' =>
    rw [e] at h
    obtain ⟨k', hl⟩ := asgs_run k r e
    exact ⟨hl, h _ F H k' (Same.refl _)⟩
/-- x, y = a, c with plain local names -/
theorem ds_par {i j : Nat} {x y : Str} {a c : Expr} {φ : M (List AV)} {px py pt : Pos} {kt k2 pt2} (hc : X.calm = true) (hN : X.N.Nodup) (hi : X.N[i]? = some x) (hj : X.N[j]? = some y) (hij : i ≠ j)
    (hx : X.env.scope.names.lookup x = some .local) (hy : X.env.scope.names.lookup y = some .local) (ha : PA X [a, c] (tR W φ b))
    (hw : swappedStores [.Tuple [.Name x px, .Name y py] kt pt] (.Tuple [a, c] k2 pt2) X.env = pure (some [x, y]))
    (hs : swapsWithSole [.Tuple [.Name x px, .Name y py] kt pt] (.Tuple [a, c] k2 pt2) pos.line X.env = pure false := by rfl) :
    PS X (.Assign [.Tuple [.Name x px, .Name y py] kt pt] (.Tuple [a, c] k2 pt2) pos) (tS b W (mPar [i, j] φ)) := by
  refine weakS (ps_par hc hN hi hj hij hx hy ha hw hs) fun D σ H ⟨F, ρ, k, h⟩ => ?_
  refine runSR k h fun avs vs ρ1 F1 H1 k1 s1 r1 h1 => ?_
  obtain ⟨hl, q⟩ := Then.asgs k1 r1 h1
  match vs, hl with
  | [v, w], _ => exact ⟨v, w, rfl, q⟩
def gNames : List Nat → TGs
  | [] => gNil
  | i :: is => gCons (gName i) (gNames is)
theorem gNames_all : ∀ {is : List Nat} {vs : List V} {σ : St} {H : Hp} {Q : St → Hp → Prop}, is.length = vs.length → Q (setAll is vs σ) H → gNames is vs σ H Q
  | [], [], _, _, _, _, q => ⟨rfl, q⟩
  | [], _ :: _, _, _, _, h, _ => by cases h
  | _ :: _, [], _, _, _, h, _ => by cases h
  | i :: is, v :: vs, σ, H, Q, h, q => ⟨v, vs, rfl, gNames_all (by simpa using h) q⟩
/-- names = a tuple of written values, by way of the tuple -/
theorem ds_parT {ts es : List Expr} {is : List Nat} {φ : M (List AV)} {kt k2 : Nat} {pt pt2 : Pos} (hc : X.calm = true) (ha : PA X es (tR W φ b)) (hg : PGs X ts (gNames is)) (hl : ts.length = is.length) (hz : is.length ≤ sizeLine := by decide)
    (hs : swapsWithSole [.Tuple ts kt pt] (.Tuple es k2 pt2) pos.line X.env = pure false := by rfl) (hw : swappedStores [.Tuple ts kt pt] (.Tuple es k2 pt2) X.env = pure none := by rfl)
    (h1 : (assignEach [.Tuple ts kt pt] X.env).map (·.2) = [assign (.Tuple ts kt pt) X.env] := by rfl) (hn : (assignEach ts X.env).length = is.length := by rfl) (hst : (assignEach ts X.env).findIdx? (·.1) = none := by rfl) :
    PS X (.Assign [.Tuple ts kt pt] (.Tuple es k2 pt2) pos) (tS b W (mPar is φ)) := by
  refine weakS (ps_asg (pe_tup ha) (pg_tup hc hg hn hst) hs hw h1) fun D σ H ⟨F, ρ, k, h⟩ => ?_
  refine runSR k h fun avs vs ρ1 F1 H1 k1 s1 r1 h1 => ?_
  have len : is.length = vs.length := (Then.asgs k1 r1 h1).1
  refine ⟨by rw [← len]; exact hz, fun p hp => ?_⟩
  have g : Grow F1 H1 F1 (upd H1 p (.tup vs)) := Grow.owned k1.sub hp
  have r2 : RepR b F1 (upd H1 p (.tup vs)) σ ρ1 avs vs := by
    exact r1.grow g
  exact ⟨p, vs, rfl, SqT.of upd_same, len.symm, gNames_all len (Then.asgs (k1.grow g) r2 h1).2⟩
end

/-! ### dict displays -/
def mPairs : List (M AV × M AV) → M (List (D × D))
  | [] => M.ret []
  | (φ, ψ) :: r => φ.bnd fun a => (frz a).bnd fun k => ψ.bnd fun c => (frz c).bnd fun v => (mPairs r).bnd fun l => M.ret ((k, v) :: l)
def mDisp (l : List (M AV × M AV)) : M AV := (mPairs l).bnd fun ps => if (ps.all fun p => (keyOf p.1).isSome) = true ∧ ps.length ≤ 15 then M.ret (.ow (.dct (mergeD [] ps))) else M.stuck
section
variable {X : Cx} {b : Bs} {W : WX} {pos : Pos}
theorem de_dict0 : PE X (.Dict [] [] pos) (tE b W (M.ret (.ow (.dct [])))) := by
  refine weakE pe_dnewK fun σ H Q ⟨F, ρ, k, h⟩ p hp => ?_
  have g : Grow F H F (upd H p (.dK [])) := Grow.owned k.sub hp
  exact h _ _ (k.grow g) (Same.refl _) _ ⟨p, rfl, k.fresh_F hp, k.fresh_0 hp, ⟨[], upd_same, by unfold RepK; rfl⟩, k.apart_new hp, k.prot_new hp⟩
def trsOf (b : Bs) (W : WX) : List (M AV × M AV) → List (TE × TE)
  | [] => []
  | (φ, ψ) :: r => (tEx b W φ, tEx b W ψ) :: trsOf b W r
theorem dpp_nil : PPs X pos [] [] (trsOf b W []) := pps_nil
theorem dpp_cons {k v : Expr} {ks : List (Option Expr)} {vs : List Expr} {φ ψ : M AV} {r : List (M AV × M AV)} (hk : ∀ P, PE X k (tE (b.add P) W φ)) (hv : ∀ P, PE X v (tE (b.add P) W ψ)) (hr : PPs X pos ks vs (trsOf b W r)) :
    PPs X pos (some k :: ks) (v :: vs) (trsOf b W ((φ, ψ) :: r)) := pps_cons (ex_add hk) (ex_add hv) hr
inductive RepPs (K : PySem.W.Frag) (mg : Str → Option Value) (F : Hp) : List (D × D) → List (V × V) → Prop
  | nil : RepPs K mg F [] []
  | cons {k d : D} {r : List (D × D)} {u v : V} {s : List (V × V)} : Rep K mg F k u → Rep K mg F d v → RepPs K mg F r s → RepPs K mg F ((k, d) :: r) ((u, v) :: s)
theorem pairs_run {P : List (Addr × HO)} {σ : St} : ∀ {l : List (M AV × M AV)} {α : Type} {f : List (D × D) → M α} {Q : α → DL.Env → Hp → Hp → Prop} {F H : Hp} {ρ : DL.Env} {R : List (V × V) → Hp → Prop}, Ok (b.add P) ρ F H σ → After (b.add P) W σ F ((mPairs l).bnd f ρ) Q →
    (∀ ps vs ρ1 F1 H1, Ok (b.add P) ρ1 F1 H1 σ → Same F F1 → RepPs b.K b.mg F1 ps vs → After (b.add P) W σ F1 (f ps ρ1) Q → R vs H1) → tPairs (trsOf b W l) σ H R
  | [], α, f, Q, F, H, ρ, R, k, h, i => i [] [] ρ F H k (Same.refl _) .nil h
  | (φ, ψ) :: l, α, f, Q, F, H, ρ, R, k, h, i => by
    have h : After (b.add P) W σ F ((φ.bnd fun a => (frz a).bnd fun k => ψ.bnd fun c => (frz c).bnd fun v => (mPairs l).bnd fun l => f ((k, v) :: l)) ρ) Q := by
      have e : (mPairs ((φ, ψ) :: l)).bnd f = φ.bnd fun a => (frz a).bnd fun k => ψ.bnd fun c => (frz c).bnd fun v => (mPairs l).bnd fun l => f ((k, v) :: l) := by
        show (φ.bnd fun a => (frz a).bnd fun k => ψ.bnd fun c => (frz c).bnd fun v => (mPairs l).bnd fun l => M.ret ((k, v) :: l)).bnd f = _
        simp only [M.bnd_assoc, M.ret_bnd]
      rw [e] at h
      exact h
    refine ⟨P, F, ρ, k, h.bnd.imp fun a ρ1 F1 H1 k1 s1 ⟨_, h1⟩ x r1 => ?_⟩
    obtain ⟨kd, ρ2, F2, k2, s2, q2, h2⟩ := After.froze k1 r1 h1
    refine ⟨P, F2, ρ2, k2, h2.bnd.imp fun c ρ3 F3 H3 k3 s3 ⟨_, h3⟩ y r3 => ?_⟩
    obtain ⟨vd, ρ4, F4, k4, s4, q4, h4⟩ := After.froze k3 r3 h3
    refine pairs_run (l := l) k4 h4 fun ps vs ρ5 F5 H5 k5 s5 r5 h5 => ?_
    exact i _ _ ρ5 F5 H5 k5 (s1.trans (s2.trans (s3.trans (s4.trans s5)))) (.cons (q2.mono (s3.trans (s4.trans s5))) (q4.mono s5) r5) h5
theorem RepPs.keys {K : PySem.W.Frag} {mg : Str → Option Value} {F : Hp} : ∀ {ps : List (D × D)} {vs : List (V × V)}, RepPs K mg F ps vs → (ps.all fun p => (keyOf p.1).isSome) = true → ∃ hk : List (Key × V), vs = hk.map (fun kv => (kV kv.1, kv.2)) ∧ RepK K mg F ps hk
  | _, _, .nil, _ => ⟨[], rfl, by unfold RepK; rfl⟩
  | _, _, .cons (k := k) (d := d) (v := v) q1 q2 t, h => by
    rw [List.all_cons, Bool.and_eq_true] at h
    obtain ⟨kk, ek⟩ := Option.isSome_iff_exists.mp h.1
    obtain ⟨hk, rfl, r⟩ := RepPs.keys t h.2
    have := keyOf_rd (H := F) (.inl q1) ek
    subst this
    refine ⟨(kk, v) :: hk, rfl, ?_⟩
    unfold RepK
    exact ⟨kk, v, hk, rfl, dkey_iff.mpr ek, q2, r⟩
theorem RepPs.len {K : PySem.W.Frag} {mg : Str → Option Value} {F : Hp} {ps : List (D × D)} {vs : List (V × V)} (r : RepPs K mg F ps vs) : ps.length = vs.length := by
  induction r with
  | nil => rfl
  | cons _ _ _ ih => rw [List.length_cons, List.length_cons, ih]
theorem mPairs_len : ∀ {l : List (M AV × M AV)} {ρ ρ' : DL.Env} {ps : List (D × D)}, mPairs l ρ = .ok ps ρ' → ps.length = l.length
  | [], _, _, _, h => by cases h; rfl
  | (φ, ψ) :: l, ρ, ρ', ps, h => by
    have h : (φ.bnd fun a => (frz a).bnd fun k => ψ.bnd fun c => (frz c).bnd fun v => (mPairs l).bnd fun l => M.ret ((k, v) :: l)) ρ = .ok ps ρ' := h
    obtain ⟨a, ρ1, _, h⟩ := bnd_inv h
    obtain ⟨k, ρ2, _, h⟩ := bnd_inv h
    obtain ⟨c, ρ3, _, h⟩ := bnd_inv h
    obtain ⟨v, ρ4, _, h⟩ := bnd_inv h
    obtain ⟨r, ρ5, e, h⟩ := bnd_inv h
    cases h
    rw [List.length_cons, List.length_cons, mPairs_len e]
theorem de_disp {keys : List (Option Expr)} {values : List Expr} {l : List (M AV × M AV)} (h : PPs X pos keys values (trsOf b W l)) (hall : keys.all (·.isSome) = true := by rfl) (hl : keys.length = values.length := by rfl) (h0 : keys ≠ [] := by exact fun e => nomatch e)
    (h15 : keys.length ≤ 15 := by decide) (hll : l.length ≤ 15 := by decide) : PE X (.Dict keys values pos) (tE b W (mDisp l)) := by
  refine weakE (pe_disp h hall hl h0 h15) fun σ H Q ⟨F, ρ, k, h⟩ p hp => ?_
  have g : Grow F H F (upd H p (.dK [])) := Grow.owned k.sub hp
  have k1 : Ok (b.add [(p, .dK [])]) ρ F (upd H p (.dK [])) σ := (k.grow g).add upd_same (k.fresh_F hp) (k.apart_new hp)
  have npP : ∀ q ∈ b.P, q.1 ≠ p := k.prot_new hp
  have n0 := k.fresh_0 hp
  have e : (mPairs l).bnd M.ret = mPairs l := by
    funext ρ
    unfold M.bnd
    cases mPairs l ρ <;> rfl
  have h := After.add (P := [(p, .dK [])]) h.bnd
  rw [← e] at h
  have h' := h
  refine pairs_run (P := [(p, .dK [])]) k1 h' fun ps vs ρ2 F2 H2 k2 s2 r2 h2 => ?_
  obtain ⟨g1, g2, g3⟩ := k2.prot (p, .dK []) List.mem_cons_self
  refine ⟨g1, ?_⟩
  obtain ⟨_, _, h3⟩ := h2 F2 H2 k2 (Same.refl _)
  by_cases hk : (ps.all fun p => (keyOf p.1).isSome) = true ∧ ps.length ≤ 15
  · rw [if_pos hk] at h3
    obtain ⟨hk', rfl, rk⟩ := r2.keys hk.1
    have hlen : hk'.length ≤ 15 := by
      have := r2.len
      rw [List.length_map] at this
      rw [← this]; exact hk.2
    refine ⟨hk', rfl, hlen, ?_⟩
    have oa : OwnAt b.K b.mg F2 (upd H2 p (.dK (mergeK [] hk'))) p (.dct (mergeD [] ps)) := ⟨_, upd_same, rk.merge (by unfold RepK; rfl)⟩
    exact h3 F2 _ (k2.unadd.poke n0 g2 g3 npP) (Same.refl _) _ ⟨p, rfl, g2, n0, oa, g3, npP⟩
  · rw [if_neg hk] at h3
    exact h3.elim
end
end DL

namespace DL
open PySem PySem.Spec L2

/-! ### a op1 c op2 d -/
def mChain (f g : D → D → Option AV) (φ ψ χ : M AV) : M AV := φ.bnd fun a => ψ.bnd fun c => (rd (stab a)).bnd fun x => (rd (stab c)).bnd fun y => match f x y with
  | some (.fz (.bl true)) => χ.bnd fun e => (rd (stab e)).bnd fun z => (rd (stab c)).bnd fun y => lift (g y z)
  | some (.fz (.bl false)) => M.ret (.fz (.bl false))
  | _ => M.stuck
section
variable {X : Cx} {b : Bs} {W : WX} {pos : Pos}
theorem run_chain {f g : D → D → Option AV} {φ ψ χ : M AV} {σ : St} {F H : Hp} {ρ : DL.Env} {Q : VK} (k : Ok b ρ F H σ) (h : After b W σ F (mChain f g φ ψ χ ρ) fun av ρ' F' H' => ∀ v, RepA b F' H' σ ρ' av v → Q v H') :
    tE b W φ σ H fun x H1 => tE b W ψ σ H1 fun y H2 => rD2 b f x y H2 fun z H3 => ∃ k, z = .bl k ∧ (if k = true then tE b W χ σ H3 fun w' H4 => rD2 b g y w' H4 Q else Q (.bl false) H3) := by
  refine runE k h fun av x ρ1 F1 H1 k1 s1 r1 h1 => ?_
  obtain ⟨F2, k2, s2, r2⟩ := k1.stab r1
  refine runE k2 (h1.later s2) fun cv y ρ3 F3 H3 k3 s3 r3 h3 => ?_
  obtain ⟨F4, k4, s4, r4⟩ := k3.stab r3
  have r2' : RepA b F4 H3 σ ρ3 (stab av) x := r2.stays (s3.trans s4)
  obtain ⟨dx, q1, h5⟩ := (h3.later s4).read k4 r2'
  obtain ⟨dy, q2, h6⟩ := h5.read k4 r4
  refine ⟨F4, σ, ρ3, dx, dy, k4, q1, q2, ?_⟩
  have dead : ∀ {P : Prop}, After b W σ F4 ((M.stuck : M AV) ρ3) (fun av ρ' F' H' => ∀ v, RepA b F' H' σ ρ' av v → Q v H') → P := fun h => h.elim
  cases e : f dx dy with
  | none => rw [e] at h6; exact dead h6
  | some o =>
  rw [e] at h6
  cases o with
  | sl i => exact dead h6
  | ow d => exact dead h6
  | fz d =>
  cases d with
  | bl c =>
   cases c with
   | true =>
    intro v F5 H5 k5 s5 r5
    have h6 : After b W σ F4 ((χ.bnd fun e => (rd (stab e)).bnd fun z => (rd (stab cv)).bnd fun y => lift (g y z)) ρ3) _ := h6
    have ev : v = .bl true := by
      have r5 : Rep b.K b.mg F5 (.bl true) v := r5
      unfold Rep at r5; exact r5
    refine ⟨true, ev, iteT ?_⟩
    refine runE k5 (h6.later s5) fun ev z ρ6 F6 H6 k6 s6 r6 h7 => ?_
    obtain ⟨F7, k7, s7, r7⟩ := k6.stab r6
    obtain ⟨dz, q3, h8⟩ := (h7.later s7).read k7 r7
    obtain ⟨dy', q4, h9⟩ := h8.read k7 (r4.stays (s5.trans (s6.trans s7)))
    exact ⟨F7, σ, ρ6, dy', dz, k7, q4, q3, h9.gives⟩
   | false =>
    intro v F5 H5 k5 s5 r5
    have ev : v = .bl false := by
      have r5 : Rep b.K b.mg F5 (.bl false) v := r5
      unfold Rep at r5; exact r5
    exact ⟨false, ev, iteF (h6 F5 H5 k5 s5 _ (by show Rep _ _ _ _ _; unfold Rep; rfl))⟩
  | _ => exact dead h6
theorem de_chain {a c d : Expr} {op op' : CmpOp} {f g : D → D → Option AV} {φ ψ χ : M AV} (fit : Fit X b) (ho : OpD X (compareOp op) f) (ho' : OpD X (compareOp op') g) (ha : PE X a (tE b W φ)) (hc : PE X c (tE b W ψ)) (hd : PE X d (tE b W χ))
    (hm : lastMarks [op, op'] [c, d] = false := by with_unfolding_all rfl) : PE X (.Compare a [op, op'] [c, d] pos) (tE b W (mChain f g φ ψ χ)) := by
  refine weakE (pe_chain (ho b fit) (ho' b fit) ha hc hd hm) fun σ H Q ⟨F, ρ, k, h⟩ => ?_
  exact run_chain k h
theorem dt_chain {a c d : Expr} {op op' : CmpOp} {f g : D → D → Option AV} {φ ψ χ : M AV} (fit : Fit X b) (ho : OpD X (compareOp op) f) (ho' : OpD X (compareOp op') g) (ha : PE X a (tE b W φ)) (hc : PE X c (tE b W ψ)) (hd : PE X d (tE b W χ))
    (hm : lastMarks [op, op'] [c, d] = false := by with_unfolding_all rfl) : PT X (.Compare a [op, op'] [c, d] pos) (tT b W (mTest (mChain f g φ ψ χ))) := by
  refine weakT (pt_chain (ho b fit) (ho' b fit) ha hc hd hm) fun σ H Q ⟨F, ρ, k, h⟩ => ?_
  refine run_chain k (h.bnd.imp fun av ρ' F' H' k' s' ⟨_, q⟩ v r => ?_)
  obtain ⟨d, q1, h2⟩ := q.read k' r
  obtain ⟨c, rfl, h3⟩ := rd_bl q1 h2
  exact ⟨c, rfl, h3 F' H' k' (Same.refl _)⟩
end

/-! ### isinstance -/
def tyN : D → Option String
  | .non => some "NoneType"
  | .bl _ => some "bool"
  | .int _ => some "int"
  | .str _ => some "str"
  | .tup _ => some "tuple"
  | .lst _ => some "list"
  | .scr _ => some "list"
  | .dct _ => some "dict"
  | .ins _ _ => none
def isB (T : String) (t : String) : Bool := t == T || (t == "bool" && T == "int")
def isiB (T : String) (d : D) : Option Bool := (tyN d).map (isB T)
def mIsi (f : D → Option Bool) (φ : M AV) : M AV := φ.bnd fun a => (rd (stab a)).bnd fun d => lift ((f d).map fun r => .fz (.bl r))
/-- what is asked of the answers about a class -/
def IsiOk (X : Cx) (u : Value) (f : D → Option Bool) : Prop := ∀ (b : Bs) (F H : Hp) (d : D) (v : V) (r : Bool), Fit X b → Sub F H → Rd1 b F H d v → f d = some r → ∃ t, TyX X.K H v t ∧ PySem.W.kitOne X.K t u = some r
theorem tyN_ok {X : Cx} {b : Bs} {F H : Hp} {d : D} {v : V} {t : String} (fit : Fit X b) (sb : Sub F H) (r : Rd1 b F H d v) (h : tyN d = some t) : TyX X.K H v (.type t) := by
  cases d with
  | non => cases h; rw [rNon r]; exact .base .non
  | bl c => cases h; rw [rBl r]; exact .base (.bl c)
  | int c => cases h; rw [rInt r]; exact .base (.int c)
  | str c => cases h; rw [rStr r]; exact .base (.str c)
  | tup l =>
    cases h
    obtain ⟨a, xs, rfl, e, _⟩ := RepD.tup sb r
    rw [fit.K] at e
    rcases e with (e | ⟨o, e⟩) | ⟨o, its, n, h1, h2, _⟩
    · exact .base (.tup e)
    · exact .fTuple e
    · exact .kTuple h1 h2
  | lst l =>
    cases h
    obtain ⟨a, xs, rfl, e, _⟩ := RepD.lst sb r
    exact .base (.lst e)
  | scr l =>
    cases h
    obtain ⟨a, rfl, e⟩ := RepD.scr sb r
    rw [fit.K] at e
    rcases e with (e | ⟨o, e⟩) | ⟨o, its, n, h1, h2, _⟩
    · exact .base (.lst e)
    · exact .base (.frz e)
    · exact .kList h1 h2
  | dct l =>
    cases h
    obtain ⟨a, hk, rfl, e, _⟩ := RepD.dct sb r
    rcases e with e | ⟨o, e⟩
    · exact .base (.dK e)
    · exact .fDict e
  | ins c fs => cases h
theorem isiB_ok {X : Cx} (T : String) (hT : (["NoneType", "bool", "int", "str", "tuple", "list", "dict"].all fun t => decide (kitB t T = some (isB T t))) = true) : IsiOk X (.type T) (isiB T) := by
  intro b F H d v r fit sb rd h
  unfold isiB at h
  cases e : tyN d with
  | none => rw [e] at h; cases h
  | some t =>
    rw [e] at h
    cases h
    refine ⟨_, tyN_ok fit sb rd e, kit_ty ?_⟩
    have hm : t ∈ ["NoneType", "bool", "int", "str", "tuple", "list", "dict"] := by
      cases d <;> cases e <;> simp
    exact of_decide_eq_true (List.all_eq_true.mp hT t hm)
section
variable {X : Cx} {b : Bs} {W : WX} {pos : Pos}
theorem de_isi {p : Pos} {e ec : Expr} {φ : M AV} {cv : V} {u : Value} {f : D → Option Bool} (fit : Fit X b) (ok : IsiOk X u f) (hc : ClsV cv u) (hec : PE X ec (tC cv)) (he : PE X e (tE b W φ)) (hm : X.mg "isinstance" = none) (hg : Gl X "isinstance" := by rfl) (hv : bootBuiltins "isinstance" = some (.builtin "isinstance") := by kernel_rfl)
    (hs : starEach [e, ec] X.env = (false, eval e X.env) :: starEach [ec] X.env := by rfl) (hs2 : starEach [ec] X.env = (false, eval ec X.env) :: starEach [] X.env := by rfl) (hpl : (backTo pos (starEach [ec] X.env)).any (·.1) = false := by rfl) :
    PE X (.Call (.Name "isinstance" p) [e, ec] [] pos) (tE b W (mIsi f φ)) := by
  refine weakE (pe_callB call_isi hg hm hv (pa_cons he (pa_cons hec pa_nil hs2) hs) (by decide) (by decide) hs hpl) fun σ H Q ⟨F, ρ, k, h⟩ => ?_
  refine runE k h fun av x ρ1 F1 H1 k1 s1 r1 h1 => ?_
  obtain ⟨F2, k2, s2, r2⟩ := k1.stab r1
  obtain ⟨d, q1, h2⟩ := (h1.later s2).read k2 r2
  cases e : f d with
  | none => rw [e] at h2; exact h2.elim
  | some r =>
    rw [e] at h2
    obtain ⟨t, ty, kit⟩ := ok b F2 H1 d x r fit k2.sub q1 e
    exact ⟨x, cv, t, u, r, rfl, hc, ty, kit, gBl k2 (After.gives (o := some (.fz (.bl r))) h2)⟩
end

/-! ### raise X() -/
structure XcD (X : Cx) (x : Str) : Prop where
  ex : ∃ (C : Addr) (bmB : List Value) (B newId initId : String), PySem.W.excIn X.K C bmB newId = true ∧ X.mg x = some (.ref C) ∧ PySem.W.keepIn X.K (.ref C) = true ∧ Raises X (.ref C) ∧ ExcBaseFacts B newId initId bmB
def mRaise (x : Str) : M Ctl := fun ρ => .ex ⟨x, []⟩ ρ
section
variable {X : Cx} {b : Bs} {W : WX} {pos : Pos}
theorem pmk_own0 {C : Addr} {bmB : List Value} {B newId initId : String} {x : Str} {p : Pos} (F : ExcBaseFacts B newId initId bmB) (q : PySem.W.excIn X.K C bmB newId = true) (gC : X.mg x = some (.ref C))
    (kC : PySem.W.keepIn X.K (.ref C) = true) (r : Raises X (.ref C)) (hg : Gl X x) (hdb : (x == ("__debug__" : Str)) = false) : PMk X (.Call (.Name x p) [] [] pos) (fun _ H Q => Q (.ref C) none H) := by
  intro pins s σ H Q I h
  refine wpAny_Call_Name_kw (ld_glob I hg gC (PySem.W.callWith_K0 I.kIn kC ?_) hdb)
  show wpAny _ _ (call (.ref C) []) _ _ _
  obtain ⟨bm, N, nm, qn, bs, hdct, sn, sub, ab, col, dd, k0, k1, k2, k3, k5, mN, hC, hN, hni, T⟩ := exc_obj I.kIn q
  refine wpAny_call_exc_subT F T hC hN hni (fun h' e hm => ?_) (Nat.zero_le _)
  exact mk_of I hm r h (I.hok.gone hm.new)
theorem ds_raise0 {x : Str} {p pos' : Pos} (fit : Fit X b) (tk : Takes X W) (xc : XcD X x) (hg : Gl X x := by rfl) (hdb : (x == ("__debug__" : Str)) = false := by decide) (hc : X.calm = true := by rfl) : PS X (.Raise (some (.Call (.Name x p) [] [] pos)) none pos') (tS b W (mRaise x)) := by
  obtain ⟨C, bmB, B, n, i, q, gC, kC, r, F⟩ := xc.ex
  refine weakS (ps_raise hc tk (pmk_own0 F q gC kC r hg hdb)) fun D σ H ⟨F, ρ, k, h⟩ => ?_
  exact h _ _ σ F H k (Same.refl _) ⟨C, by rw [fit.mg]; exact gC, rfl, .inl rfl⟩

/-! ### try: .. except x: .. -/
def mTry (cs : Str → Option Bool) (φ ψ : M Ctl) : M Ctl := fun ρ => match φ ρ with
  | .ex e ρ' => match cs e.c with
    | some true => match ψ ρ' with
      | .ex _ _ => .no
      | r => r
    | some false => .ex e ρ'
    | none => .no
  | r => r
/-- which classes the clause takes -/
def Catch (X : Cx) (c : Value) (cs : Str → Option Bool) : Prop := ∀ (x : Str) (C : Addr) (r : Bool), X.mg x = some (.ref C) → cs x = some r → PySem.W.exmOne X.K (.ref C) c = some r
theorem ds_try {x : Str} {c : Value} {body suite : List Stmt} {b₀ : Stmt} {np pos pos' : Pos} {φ ψ : M Ctl} {cs : Str → Option Bool} (fit : Fit X b) (hs : X.stack = X.env :: X.outer) (hf : X.env.frame = some X.env.locals) (hc : Names X x c) (tk : Takes X W) (ct : Catch X c cs)
    (hb : ∀ (W : WX) (pn : List (Addr × Obj)) (xe : Value → Shared → Prop), Takes (X.tr pn xe) W → PassesOwn (model X.prog X.w) X.A X.env xe → PSs (X.tr pn xe) body (tS b W φ))
    (hsu : ∀ (a : Addr) (pn : List (Addr × Obj)), PSs (X.suite a pn) (b₀ :: suite) (tS b W0 ψ)) :
    PS X (.Try body [.ExceptHandler (some (.Name x np)) none (b₀ :: suite) pos'] [] [] pos) (tS b W (mTry cs φ ψ)) := by
  refine weakS (ps_try_only (ts := fun _ _ _ => tS b W0 ψ) hs hf hc tk hb (fun a oe cls d pn _ _ => hsu a _)) fun D σ H ⟨F, ρ, k, h⟩ => ?_
  refine ⟨F, ρ, k, ?_⟩
  unfold mTry at h
  cases e : φ ρ with
  | no => rw [e] at h; exact h.elim
  | ok ctl ρ' =>
    rw [e] at h
    cases ctl with
    | nx => exact h
    | bk => exact h
    | ct => exact h
    | rt av => exact h
  | ex x ρ' =>
    simp only [e] at h
    intro cls dd σ' F' H' k' s' ⟨C, mC, ec, er⟩
    subst ec
    cases ecs : cs x.c with
    | none => simp only [ecs] at h; exact h.elim
    | some r =>
      have hx := ct x.c C r (by rw [← fit.mg]; exact mC) ecs
      refine ⟨r, hx, fun hr a _ => ?_, fun hr => ?_⟩
      · subst hr
        simp only [ecs] at h
        refine ⟨F', ρ', k', Then.later ?_ s'⟩
        cases e3 : ψ ρ' with
        | no => rw [e3] at h; exact h.elim
        | ok ctl ρ2 =>
          rw [e3] at h
          cases ctl with
          | nx => exact h
          | bk => exact h
          | ct => exact h
          | rt av => exact h
        | ex x2 ρ2 => rw [e3] at h; exact h.elim
      · subst hr
        simp only [ecs] at h
        exact h _ _ σ' F' H' k' s' ⟨C, mC, rfl, er⟩
end
end DL

namespace DL
open PySem PySem.Spec L2

/-! ### repr -/
mutual
def toPy : D → Option PyData
  | .non => some .none
  | .bl b => some (.bool b)
  | .int i => some (.int i)
  | .str s => some (.str s)
  | .tup l => (toPys l).map .tuple
  | .lst l => (toPys l).map .list
  | _ => none
def toPys : List D → Option (List PyData)
  | [] => some []
  | d :: r => match toPy d, toPys r with
    | some p, some l => some (p :: l)
    | _, _ => none
end
mutual
/-- no list in it -/
def noLst : D → Bool
  | .tup l => noLsts l
  | .lst _ => false
  | .non => true
  | .bl _ => true
  | .int _ => true
  | .str _ => true
  | _ => false
def noLsts : List D → Bool
  | [] => true
  | d :: r => noLst d && noLsts r
end
def toPyK : List (D × D) → Option (List (PyData × PyData))
  | [] => some []
  | (k, d) :: r => match toPy k, toPy d, toPyK r with
    | some p, some q, some l => some ((p, q) :: l)
    | _, _, _ => none
def okPy (p : PyData) : Bool := p.showable && decide (p.shown.length ≤ sizeLine) && decide (p.depth ≤ 40)
def fRepr : List D → Option AV
  | [.int i] => if i.natAbs.log2 < 1920 then some (.fz (.str (toString i))) else none
  | [.lst l] => match toPys l with
    | some ps => if okPy (.list ps) then some (.fz (.str (PyData.shown (.list ps)))) else none
    | none => none
  | [.tup l] => match toPys l with
    | some ps => if okPy (.tuple ps) then some (.fz (.str (PyData.shown (.tuple ps)))) else none
    | none => none
  | [.dct l] => match toPyK l with
    | some ps => if okPy (.dict ps) && l.all (fun p => noLst p.1 && noLst p.2) then some (.fz (.str (PyData.shown (.dict ps)))) else none
    | none => none
  | _ => none
section
variable {X : Cx} {mg : Str → Option Value} {F H : Hp} {pins : List (Addr × Obj)} {σ : St} {s : Shared}
mutual
theorem dp_of (sb : Sub F H) : ∀ {d : D} {v : V} {p : PyData}, Rep X.K mg F d v → toPy d = some p → Dp X.K H v p
  | .non, v, p, r, e => by unfold toPy at e; cases e; unfold Rep at r; subst r; exact .non
  | .bl c, v, p, r, e => by unfold toPy at e; cases e; unfold Rep at r; subst r; exact .bl c
  | .int c, v, p, r, e => by unfold toPy at e; cases e; unfold Rep at r; subst r; exact .int c
  | .str c, v, p, r, e => by unfold toPy at e; cases e; unfold Rep at r; subst r; exact .str c
  | .tup l, v, p, r, e => by
    unfold toPy at e
    cases e2 : toPys l with
    | none => rw [e2] at e; cases e
    | some ps =>
      rw [e2] at e; cases e
      unfold Rep at r
      obtain ⟨a, xs, rfl, q, rl⟩ := r
      exact .tup (sb.sqT q) (dps_of sb rl e2)
  | .lst l, v, p, r, e => by
    unfold toPy at e
    cases e2 : toPys l with
    | none => rw [e2] at e; cases e
    | some ps =>
      rw [e2] at e; cases e
      unfold Rep at r
      obtain ⟨a, xs, rfl, q, rl⟩ := r
      exact .lst (SqL.of (sb.lst q)) (dps_of sb rl e2)
  | .dct _, _, _, _, e => by unfold toPy at e; cases e
  | .ins _ _, _, _, _, e => by unfold toPy at e; cases e
  | .scr _, _, _, _, e => by unfold toPy at e; cases e
theorem dps_of (sb : Sub F H) : ∀ {ds : List D} {vs : List V} {ps : List PyData}, RepL X.K mg F ds vs → toPys ds = some ps → DpAll X.K H vs ps
  | [], vs, ps, r, e => by unfold toPys at e; cases e; unfold RepL at r; subst r; exact .nil
  | d :: ds, vs, ps, r, e => by
    unfold toPys at e
    unfold RepL at r
    obtain ⟨v, t, rfl, q, rl⟩ := r
    cases e1 : toPy d with
    | none => rw [e1] at e; cases e
    | some p =>
      rw [e1] at e
      cases e2 : toPys ds with
      | none => rw [e2] at e; cases e
      | some l =>
        rw [e2] at e; cases e
        exact .cons (dp_of sb q e1) (dps_of sb rl e2)
end
mutual
/-- no list in it: nothing but tuples is gone through -/
theorem reads_nl (I : L2.Inv X pins σ H s) (sb : Sub F H) : ∀ {d : D} {v : V} {u : Value} {p : PyData}, Rep X.K mg F d v → RelV v u → toPy d = some p → noLst d = true → Reads s.heap u p []
  | .non, v, u, p, r, q, e, _ => by unfold toPy at e; cases e; unfold Rep at r; subst r; cases q; exact .none
  | .bl c, v, u, p, r, q, e, _ => by unfold toPy at e; cases e; unfold Rep at r; subst r; cases q; exact .bool c
  | .int c, v, u, p, r, q, e, _ => by unfold toPy at e; cases e; unfold Rep at r; subst r; obtain ⟨t, rfl⟩ := q; exact .int c t
  | .str c, v, u, p, r, q, e, _ => by unfold toPy at e; cases e; unfold Rep at r; subst r; obtain ⟨t, rfl⟩ := q; exact .str c t
  | .tup l, v, u, p, r, q, e, h => by
    unfold toPy at e
    cases e2 : toPys l with
    | none => rw [e2] at e; cases e
    | some ps =>
      rw [e2] at e; cases e
      unfold Rep at r
      obtain ⟨a, xs, rfl, qq, rl⟩ := r
      cases q
      obtain ⟨its, rv, ⟨o, ho, hc, n, hd⟩, _⟩ := I.tuple (sb.sqT qq)
      unfold noLst at h
      exact Reads.tuple ho hc hd (readsAll_nl I sb rl rv e2 h)
  | .lst l, _, _, _, _, _, _, h => by unfold noLst at h; cases h
  | .dct _, _, _, _, _, _, e, _ => by unfold toPy at e; cases e
  | .ins _ _, _, _, _, _, _, e, _ => by unfold toPy at e; cases e
  | .scr _, _, _, _, _, _, e, _ => by unfold toPy at e; cases e
theorem readsAll_nl (I : L2.Inv X pins σ H s) (sb : Sub F H) : ∀ {ds : List D} {vs : List V} {us : List Value} {ps : List PyData}, RepL X.K mg F ds vs → Vals vs us → toPys ds = some ps → noLsts ds = true → ReadsAll s.heap us ps []
  | [], vs, us, ps, r, q, e, _ => by unfold toPys at e; cases e; unfold RepL at r; subst r; cases q; exact .nil
  | d :: ds, vs, us, ps, r, q, e, h => by
    unfold toPys at e
    unfold RepL at r
    unfold noLsts at h
    rw [Bool.and_eq_true] at h
    obtain ⟨v, t, rfl, r1, rl⟩ := r
    cases q with
    | cons q1 q2 =>
      cases e1 : toPy d with
      | none => rw [e1] at e; cases e
      | some p =>
        rw [e1] at e
        cases e2 : toPys ds with
        | none => rw [e2] at e; cases e
        | some l =>
          rw [e2] at e; cases e
          have := ReadsAll.cons (reads_nl I sb r1 q1 e1 h.1) (readsAll_nl I sb rl q2 e2 h.2)
          exact this
end
theorem dict_reads {es : List DictEntry} : ∀ {kvs : List (D × D)} {hk : List (Key × V)} {vs : List (Key × Value)} {ps : List (PyData × PyData)} (I : L2.Inv X pins σ H s) (sb : Sub F H) {es : List DictEntry}, RepK X.K mg F kvs hk → KV hk vs → PySem.Pairs (mixKind X.prog X.w) es vs → toPyK kvs = some ps → kvs.all (fun p => noLst p.1 && noLst p.2) = true →
    ReadsAll s.heap (es.map (·.key)) (ps.map (·.1)) [] ∧ ReadsAll s.heap (es.map (·.val)) (ps.map (·.2)) []
  | [], hk, vs, ps, I, sb, es, r, kv, pr, e, h => by
    unfold toPyK at e; cases e
    unfold RepK at r; subst r
    cases kv; cases pr
    exact ⟨.nil, .nil⟩
  | (k, d) :: kvs, hk, vs, ps, I, sb, es, r, kv, pr, e, h => by
    unfold toPyK at e
    unfold RepK at r
    obtain ⟨kk, v, t, rfl, hkk, rv, rr⟩ := r
    rw [List.all_cons, Bool.and_eq_true, Bool.and_eq_true] at h
    cases kv with
    | @cons _ q _ qs hq tq =>
      cases pr with
      | @cons en _ es' _ h1 h2 h3 =>
        cases e1 : toPy k with
        | none => rw [e1] at e; cases e
        | some p1 =>
          rw [e1] at e
          cases e2 : toPy d with
          | none => rw [e2] at e; cases e
          | some p2 =>
            rw [e2] at e
            cases e3 : toPyK kvs with
            | none => rw [e3] at e; cases e
            | some l =>
              rw [e3] at e; cases e
              obtain ⟨g1, g2⟩ := dict_reads (es := es') I sb rr tq h3 e3 h.2
              have rk : Rep X.K mg F k (kV kk) := keyOf_kV (dkey_iff.mp hkk)
              have relk : RelV (kV kk) en.key := by
                have e0 : kk = q.1 := hq.1
                rw [e0]
                exact relV_of_key h1
              have relv : RelV v en.val := by rw [h2]; exact hq.2
              exact ⟨ReadsAll.cons (reads_nl I sb rk relk e1 h.1.1) g1, ReadsAll.cons (reads_nl I sb rv relv e2 h.1.2) g2⟩
where
  relV_of_key {k : Key} {u : Value} (h : (mixKind X.prog X.w).is k u = true) : RelV (kV k) u := by
    rcases keyIs_shape h with ⟨i, t, rfl, rfl⟩ | ⟨x, t, rfl, rfl⟩
    · exact ⟨t, rfl⟩
    · exact ⟨t, rfl⟩
end
theorem toPys_noDict : ∀ {ds : List D} {ps : List PyData}, toPys ds = some ps → PyData.hasDictAll ps = false := by
  have one : ∀ {n : Nat} {d : D} {p : PyData}, sizeOf d ≤ n → toPy d = some p → p.hasDict = false := by
    intro n
    induction n with
    | zero => intro d p h; cases d <;> simp at h
    | succ n ih =>
      intro d p h e
      have all : ∀ {ds : List D} {ps : List PyData}, sizeOf ds ≤ n → toPys ds = some ps → PyData.hasDictAll ps = false := by
        intro ds
        induction ds with
        | nil => intro ps _ e; unfold toPys at e; cases e; simp only [PyData.hasDictAll]
        | cons c cs ihc =>
          intro ps hs e
          simp only [List.cons.sizeOf_spec] at hs
          unfold toPys at e
          cases e1 : toPy c with
          | none => rw [e1] at e; cases e
          | some p1 =>
            rw [e1] at e
            cases e2 : toPys cs with
            | none => rw [e2] at e; cases e
            | some l =>
              rw [e2] at e; cases e
              simp only [PyData.hasDictAll, ih (by omega) e1, ihc (by omega) e2, Bool.or_false]
      cases d with
      | non => unfold toPy at e; cases e; simp only [PyData.hasDict]
      | bl c => unfold toPy at e; cases e; simp only [PyData.hasDict]
      | int c => unfold toPy at e; cases e; simp only [PyData.hasDict]
      | str c => unfold toPy at e; cases e; simp only [PyData.hasDict]
      | tup l =>
        unfold toPy at e
        simp only [D.tup.sizeOf_spec] at h
        cases e2 : toPys l with
        | none => rw [e2] at e; cases e
        | some ps => rw [e2] at e; cases e; simp only [PyData.hasDict]; exact all (by omega) e2
      | lst l =>
        unfold toPy at e
        simp only [D.lst.sizeOf_spec] at h
        cases e2 : toPys l with
        | none => rw [e2] at e; cases e
        | some ps => rw [e2] at e; cases e; simp only [PyData.hasDict]; exact all (by omega) e2
      | dct _ => unfold toPy at e; cases e
      | ins _ _ => unfold toPy at e; cases e
      | scr _ => unfold toPy at e; cases e
  intro ds
  induction ds with
  | nil => intro ps e; unfold toPys at e; cases e; simp only [PyData.hasDictAll]
  | cons c cs ihc =>
    intro ps e
    unfold toPys at e
    cases e1 : toPy c with
    | none => rw [e1] at e; cases e
    | some p1 =>
      rw [e1] at e
      cases e2 : toPys cs with
      | none => rw [e2] at e; cases e
      | some l =>
        rw [e2] at e; cases e
        simp only [PyData.hasDictAll, one (Nat.le_refl _) e1, ihc e2, Bool.or_false]
section
variable {X : Cx}
/-- repr of what is read in the heap -/
theorem call_reprR (hg : X.A.guards = some []) (hu : X.A.units + 64 < cLine) : CallR X (.builtin "repr") (fun xs H Q => ∃ a p, xs = [V.ref a] ∧ okPy p = true ∧ (∀ (pins : List (Addr × Obj)) (s : Shared) (σ : St), L2.Inv X pins σ H s → ∃ as, Reads s.heap (.ref a) p as ∧ (p.hasDict = true → sysModules ∉ as)) ∧ Q (.str p.shown) H) := by
  intro pins s σ H xs us Q I r ⟨a, p, ex, ok, rd, q⟩
  subst ex
  obtain ⟨u, rfl, ru⟩ := vals1 r
  cases ru
  obtain ⟨as, r1, hsm⟩ := rd pins s σ I
  unfold okPy at ok
  rw [Bool.and_eq_true, Bool.and_eq_true] at ok
  have hd := of_decide_eq_true ok.2
  refine repr_of_reads' r1 ok.1.1 hsm hg (by omega) (fun _ _ e => e) (fun h' u tk hk => ?_) (of_decide_eq_true ok.1.2)
  exact ⟨.str p.shown, H, I.kept (t' := tk) hk, ⟨u, rfl⟩, q⟩
theorem cd_repr (hg : X.A.guards = some []) (hu : X.A.units + 64 < cLine) : CallD X (.builtin "repr") fRepr := by
  intro b fit
  refine weakC (CallR.orD SkE.call_repr_int (call_reprR hg hu)) fun xs H Q ⟨F, σ', ρ, ds, ok, r, g⟩ => ?_
  unfold fRepr at g
  split at g
  · obtain ⟨v, rfl, r1⟩ := r.one
    cases rInt r1
    split at g
    · rename_i hz
      exact .inl ⟨_, rfl, hz, gStr ok g⟩
    · exact g.elim
  · rename_i l
    obtain ⟨v, rfl, r1⟩ := r.one
    obtain ⟨a, xs, rfl, e1, l1⟩ := RepD.lst ok.sub r1
    split at g
    · rename_i ps e
      split at g
      · rename_i hz
        refine .inr ⟨a, .list ps, rfl, hz, fun pins s σ I => ?_, gStr ok g⟩
        rw [fit.K] at l1
        have dp : Dp X.K H (.ref a) (.list ps) := .lst (SqL.of e1) (dps_of ok.sub l1 e)
        obtain ⟨as, rr⟩ := Dp.reads I _ _ _ dp rfl
        refine ⟨as, rr, fun hd => ?_⟩
        simp only [PyData.hasDict, toPys_noDict e] at hd
        cases hd
      · exact g.elim
    · exact g.elim
  · rename_i l
    obtain ⟨v, rfl, r1⟩ := r.one
    obtain ⟨a, xs, rfl, e1, l1⟩ := RepD.tup ok.sub r1
    split at g
    · rename_i ps e
      split at g
      · rename_i hz
        refine .inr ⟨a, .tuple ps, rfl, hz, fun pins s σ I => ?_, gStr ok g⟩
        rw [fit.K] at l1 e1
        have dp : Dp X.K H (.ref a) (.tuple ps) := .tup e1 (dps_of ok.sub l1 e)
        obtain ⟨as, rr⟩ := Dp.reads I _ _ _ dp rfl
        refine ⟨as, rr, fun hd => ?_⟩
        simp only [PyData.hasDict, toPys_noDict e] at hd
        cases hd
      · exact g.elim
    · exact g.elim
  · rename_i l
    obtain ⟨v, rfl, r1⟩ := r.one
    obtain ⟨a, hk, rfl, e1, l1⟩ := RepD.dct ok.sub r1
    split at g
    · rename_i ps e
      split at g
      · rename_i hz
        rw [Bool.and_eq_true] at hz
        refine .inr ⟨a, .dict ps, rfl, hz.1, fun pins s σ I => ?_, gStr ok g⟩
        rw [fit.K] at l1
        obtain ⟨_, hd, vs, rel, o, es, ep, h1, h2, h3, h4, h5, h6⟩ := dk_rd I.hok e1
        obtain ⟨g1, g2⟩ := dict_reads (es := es.toList) I ok.sub l1 rel h5 e hz.2
        refine ⟨_, Reads.dict h1 h2.1 h3 g1 g2, fun _ hm => ?_⟩
        have : sysModules = a := by simpa using hm
        subst this
        simp at hd
      · exact g.elim
    · exact g.elim
  · exact g.elim
end
end DL

namespace DL
open PySem PySem.Spec PyProof.Rows L2

/-! ### the end of a law -/
theorem law_callG {P : Program} {w : World} {K : PySem.W.Frag} {mg mb : Str → Option Value} {k : Nat} {fa a : Addr} {fd : FuncData} {x : Str} {f : Fn} {s₁ : Shared} {vs : List Value} {ns : List Int}
    (KX : K.In s₁.heap) (hns : s₁.heap.Ns mainGlobals mg) (hb : s₁.heap.Ns builtinsNs mb) (hbb : ∀ x : Str, x ≠ "__name__" → mb x = bootBuiltins x) (hlim : s₁.heap.NoLimit) (hg : s₁.gens = #[])
    (ha : s₁.heap.get? a = some { cls := .type "list", data := .seq vs.toArray }) (hi : IntsAre vs ns) (hl : ns.length ≤ sizeLine) (hr : Room k callerA)
    (F : ∀ base : Heap, K.In base → base.Ns mainGlobals mg → FnG P w K mg base k fa fd [x] (spD K mg 1 f)) (hbind : ∀ (s : Shared) (u : Value), BindsTo s fd ⟨[u], []⟩ [(x, u)])
    (hf : ∃ bs, f [.fz (.scr ns)] = .ok false (.bl true) bs) :
    codeAny (model P w) callerA (.call (.ref fa) ⟨[.ref a], []⟩) (fun r s' => r = .ok (.ret (.bool true)) ∧ OldK s₁.heap s'.heap ∧ s'.os = s₁.os ∧ AllBare s'.gens) s₁ := by
  have rv := vals_ints hi
  have lenV := hi.length
  have core : ∀ H : Hp, Only H → SqL K H a (ns.map V.int) → HOk P w H s₁.heap → (∀ b, H b ≠ none → b = a) → (H a ≠ none → K.lookup a = none) →
      codeAny (model P w) callerA (.call (.ref fa) ⟨[.ref a], []⟩) (fun r s' => r = .ok (.ret (.bool true)) ∧ OldK s₁.heap s'.heap ∧ s'.os = s₁.os ∧ AllBare s'.gens) s₁ := by
    intro H hO hS hok hA hK
    have noA : ∀ {b : Addr} {o : Obj} {es : Array DictEntry} {ep : Nat}, s₁.heap.get? b = some o → o.data = .dict es ep → H b = none := fun {b o es ep} e d => by
      cases q : H b with
      | none => rfl
      | some u =>
        have e' : b = a := hA b (by rw [q]; simp)
        subst e'
        rw [ha] at e; cases e
        have d' : Data.seq vs.toArray _ = Data.dict es ep := d
        cases d'
    have nsK : ∀ {b : Addr} {m : Str → Option Value}, s₁.heap.Ns b m → (hidT s₁.heap H).Ns b m := fun {b m} ⟨o, es, ep, e, d, r⟩ => ⟨o, es, ep, hidT_get e (noA e d), d, r⟩
    have hKb : K.In (hidT s₁.heap H) := fun b o e => hidT_get (KX b o e) (by
      cases q : H b with
      | none => rfl
      | some u =>
        have e' : b = a := hA b (by rw [q]; simp)
        subst e'
        rw [hK (by rw [q]; simp)] at e; cases e)
    have hM : Mod K mg (hidT s₁.heap H) := ⟨hKb, nsK hns, ⟨mb, nsK hb, hbb⟩, let ⟨mc, h1, h2⟩ := hlim; ⟨mc, nsK h1, h2⟩⟩
    have e0 : Env0 P w K mg (hidT s₁.heap H) callerA [] s₁ H := ⟨rfl, hM, fun b o e => of_hidT e, Nat.le_of_eq (hidT_size _ _), trivial, fun b hb => absurd (show b ∈ ([] : List Addr) from hb) (by simp), hok, .of_eq hg⟩
    have hsp : spD K mg 1 f [.ref a] H (fun v _ => v = .bl true) fun _ _ _ => False := by
      obtain ⟨bs, hf⟩ := hf
      refine ⟨rfl, H, [.fz (.scr ns)], fun _ _ e => .inl e, .cons (by show Rep _ _ _ _ _; unfold Rep; exact ⟨a, rfl, hS⟩) .nil, by simp [boA], ?_⟩
      rw [hf]
      intro v F' H' _ r
      have r : Rep K mg F' (.bl true) v := r
      unfold Rep at r
      exact r
    refine codeAny_mono ((F _ hKb (nsK hns)).run callerA [] s₁ H ⟨[.ref a], []⟩ [.ref a] [.ref a] _ _ hr rfl e0 (hbind s₁ (.ref a)) (.cons rfl .nil) hsp) fun r s' h => ?_
    cases r with
    | error e =>
      obtain ⟨_, _, _, _, _, _, _, _, _, _, _, _, z⟩ := (show L2.CX P w [] H s₁ (fun _ _ _ => False) e s' from h)
      exact z.elim
    | ok fl =>
      cases fl with
      | next => exact False.elim h
      | brk => exact False.elim h
      | cont => exact False.elim h
      | ret u =>
        obtain ⟨v, H', os, bare, un, hok', r', q⟩ := h
        have q' : v = .bl true := q
        subst q'
        obtain rfl : u = Value.bool true := r'
        refine ⟨rfl, OldK.of_keep fun b o e => ?_, os, bare⟩
        cases q : H b with
        | none => exact un.keep b o e q (by intro z; exact absurd (show b ∈ ([] : List Addr) from z) (by simp)) (by simp)
        | some u =>
          rcases hO b with z | ⟨ob, xs, z⟩
          · rw [q] at z; cases z
          · have z2 := un.frzs b ob _ z
            obtain ⟨e1, _⟩ := hok b _ z
            obtain ⟨e2, _⟩ := hok' b _ z2
            rw [e] at e1; cases e1
            exact e2
  cases hk : K.lookup a with
  | some o =>
    have e := KX a o hk
    rw [ha] at e
    cases e
    refine core (fun _ => none) (fun _ => .inl rfl) (.inr ⟨_, vs.toArray, _, hk, rfl, rfl, rfl, by rw [List.size_toArray, lenV]; exact hl, by simpa using rv⟩) (fun b u z => by have z' : (none : Option HO) = some u := z; cases z') (fun b z => absurd rfl z) fun z => absurd rfl z
  | none =>
    refine core (fun b => if b = a then some (.frz { cls := .type "list", data := .seq vs.toArray } (.lst (ns.map V.int))) else none) (fun b => ?_) (.inl (.inr ⟨{ cls := .type "list", data := .seq vs.toArray }, if_pos rfl⟩)) (fun b u z => ?_) (fun b z => ?_) fun _ => hk
    · by_cases hb : b = a
      · exact .inr ⟨_, _, if_pos hb⟩
      · exact .inl (if_neg hb)
    · by_cases hb : b = a
      · have z' := (if_pos hb).symm.trans z
        cases z'
        subst hb
        exact ⟨ha, by rw [List.length_map]; exact hl, vs, _, rv, ha⟩
      · have z' := (if_neg hb).symm.trans z
        cases z'
    · by_cases hb : b = a
      · exact hb
      · exact absurd (if_neg hb) z
theorem walk_ofG {l : PySem.W.OpenLaw} {n k : Nat} {q : Program} {loose : List Str} {XP : (Str → Option Value) → Heap → Prop} {YP : World → Heap → Prop} {d : DefRec} {x : Str}
    (hn : l.most = some n) (hn2 : n ≤ sizeLine) (hdf : d.params.defaults = []) (hr : Room k callerA)
    (F : ∀ (w : World) (mg : Str → Option Value) (fa : Addr) (h : Heap), YP w h → h.Ns mainGlobals mg → mg d.name = some (.ref fa) →
      ∃ (K : PySem.W.Frag) (fd : FuncData) (f : Fn), K.In h ∧ (∀ (s : Shared) (u : Value), BindsTo s fd ⟨[u], []⟩ [(x, u)]) ∧
        (∀ (ns : List Int), ns.length ≤ n → ∃ bs, f [.fz (.scr ns)] = .ok false (.bl true) bs) ∧
        ∀ base : Heap, K.In base → base.Ns mainGlobals mg → FnG l.prog w K mg base k fa fd [x] (spD K mg 1 f)) :
    PySem.W.WalkO q loose XP YP l.row.toRowW d [] (fun f vs => PySem.call f vs) := by
  refine Att.attach_call hn hdf fun w s₀ s₁ mg mb fa o pm cd doc a vs ns G Y ho hd hcd hmg hobj hints hlen hg => ?_
  obtain ⟨K, fd, f, KX, hb, hf, hF⟩ := F w mg fa _ Y G.T.g hmg
  exact law_callG KX G.T.g G.T.b G.T.builtins G.T.nolimit hg hobj hints (Nat.le_trans hlen hn2) hr hF hb (hf ns hlen)
end DL

namespace DL
open PySem PySem.Spec PyProof.Rows L2

/-! ### defs by their data -/
structure Gf (P : Program) (w : World) (K : PySem.W.Frag) (mg : Str → Option Value) (base : Heap) (k : Nat) (x : Str) (n : Nat) (f : Fn) : Prop where
  ex : ∃ fa fd ps, FnG P w K mg base k fa fd ps (spD K mg n f) ∧ mg x = some (.ref fa) ∧ PySem.W.keepIn K (.ref fa) = true ∧ Binds K fd ps []
theorem Gf.cl {X : Cx} {j k : Nat} {x : Str} {n : Nat} {f : Fn} (g : Gf X.prog X.w X.K X.mg X.base k x n f) (hr : Room j X.A) (h : k ≤ j) (hg : X.A.guards = some []) : Cl X x n f := by
  obtain ⟨fa, fd, ps, F, hm, hk, hb⟩ := g.ex
  exact ⟨k, fa, fd, ps, F, hr.mono h, hg, hm, hk, hb⟩
section
variable {P : Program} {w : World} {K : PySem.W.Frag} {mg : Str → Option Value} {base : Heap}
theorem fn_Dd {x qual : Str} {params : Arguments} {body : List Stmt} {scope : Scope} {dvs : List V} {kws : List (Str × V)} {f : Addr} {fd : FuncData} {N ps : List Str} {k : Nat} {φ : M Ctl} (F : FunD K x qual params body scope dvs kws f fd) (S : FnScope N ps scope)
    (hbody : ∀ (cdv : Value) (A : Around) (outer : List PySem.Env) (s : Shared) (H : Hp) (E : XK) (b : Bs), Fit (cxOf (L2.CX P w) P w K mg base N qual scope f cdv A outer s H E) b →
      Bd (cxOf (L2.CX P w) P w K mg base N qual scope f cdv A outer s H E) (fun c d _ H => E c d H) k →
      PSs (cxOf (L2.CX P w) P w K mg base N qual scope f cdv A outer s H E) body (tS b (fun c d _ H => E c d H) φ)) : FnG P w K mg base (k + 1) f fd ps (spD K mg ps.length (runB N.length φ)) := by
  obtain ⟨oc, od, dV, kV, doc, pm, an, cdv, ct, osl, rfl, lk, hcd, _, _⟩ := F.ex
  refine fnG_of lk hcd S (fun vs H Q E h => h.1) fun A outer s H vs Q E hr hgd h => ?_
  obtain ⟨hl, F0, ks, sb, AA, nd, h⟩ := h
  exact ⟨_, hbody cdv A outer s H E (bsOf K mg F0 H ks vs) ⟨rfl, rfl⟩ ⟨takes_of rfl rfl rfl rfl, passes_of rfl, hr, hgd⟩, body_run sb AA nd h⟩
theorem Gf.of {x : Str} {params : Arguments} {body : List Stmt} {scope : Scope} {kws : List (Str × V)} {f : Addr} {fd : FuncData} {ps : List Str} {k n : Nat} {g : Fn} (F : FunD K x x params body scope [] kws f fd) (hm : mg x = some (.ref f))
    (hb : ∀ (kV doc pm : Value) (an : Option Addr) (cdv ct : Value) (us : List Value), us.length = ps.length → bindArgs (PySem.W.fnOf x x params body scope .none kV doc pm an cdv ct) ⟨us, []⟩ = pure (ps.zip us))
    (h : FnG P w K mg base k f fd ps (spD K mg n g)) : Gf P w K mg base k x n g := ⟨f, fd, ps, h, hm, F.kp, F.bindsN hb⟩
/-- a def that is never called with success -/
theorem fnG_no {f : Addr} {fd : FuncData} {ps : List Str} {n k : Nat} (hl : ps.length = n) : FnG P w K mg base k f fd ps (spD K mg n fun _ => .no) :=
  ⟨fun vs H Q E h => h.1.trans hl.symm, fun A outer s H args us vs Q E _ _ _ _ _ h => by
    obtain ⟨_, _, _, _, _, _, h⟩ := h
    exact h.elim⟩
end
/-! ### facts of the top -/
theorem glo_int {X : Cx} {x : Str} {i : Int} (h : ∃ t, X.mg x = some (.int i t)) : GloD X x (.int i) := by
  obtain ⟨t, h⟩ := h
  exact ⟨_, .int i, h, ⟨t, rfl⟩, fun F => by unfold Rep; rfl⟩
theorem glo_str {X : Cx} {x z : Str} (h : ∃ t, X.mg x = some (.str z t)) : GloD X x (.str z) := by
  obtain ⟨t, h⟩ := h
  exact ⟨_, .str z, h, ⟨t, rfl⟩, fun F => by unfold Rep; rfl⟩
/-- flat data as a value -/
def flD : D → V
  | .non => .non
  | .bl b => .bl b
  | .int i => .int i
  | .str s => .str s
  | _ => .non
def isFl : D → Bool
  | .non => true
  | .bl _ => true
  | .int _ => true
  | .str _ => true
  | _ => false
theorem flD_rep {K : PySem.W.Frag} {mg : Str → Option Value} {F : Hp} : ∀ {ds : List D}, ds.all isFl = true → RepL K mg F ds (ds.map flD)
  | [], _ => by show RepL K mg F [] []; unfold RepL; rfl
  | d :: ds, h => by
    rw [List.all_cons, Bool.and_eq_true] at h
    rw [List.map_cons]
    unfold RepL
    refine ⟨_, _, rfl, ?_, flD_rep h.2⟩
    cases d <;> first
      | (unfold Rep; rfl)
      | cases h.1
theorem glo_tup {X : Cx} {x : Str} {a : Addr} {ds : List D} (hm : X.mg x = some (.ref a)) (h : ∀ H, SqT X.K H a (ds.map flD)) (hf : ds.all isFl = true) : GloD X x (.tup ds) :=
  ⟨_, .ref a, hm, rfl, fun F => by unfold Rep; exact ⟨a, _, rfl, h F, flD_rep hf⟩⟩
/-! ### a head with more facts -/
abbrev AlX : Type := Bool × He.AlD
def obsX (fa : List He.Fa) (fn : List He.DefD) (ex : List (PySem.W.Frag → Bool)) (K : PySem.W.Frag) : AlX := (ex.all fun t => t K, He.obsD fa fn K)
def valX (fn : List He.DefD) : AlX := (true, He.valD fn)
def SaysX (fa : List He.Fa) (fn : List He.DefD) (ex : List (PySem.W.Frag → Bool)) (K : PySem.W.Frag) : Prop := obsX fa fn ex K = valX fn
def obsXG (n : Nat) (fa : List He.Fa) (fn : List He.DefD) (ex : List (PySem.W.Frag → Bool)) (g : Addr → Option Obj) : AlX := obsX fa fn ex (He.frG g (He.asD g n))
def hookX (n : Nat) (fa : List He.Fa) (fn : List He.DefD) (ex : List (PySem.W.Frag → Bool)) : PySem.W.Hook where
  α := AlX
  obs := fun s => obsXG n fa fn ex s.heap.get?
  val := fun _ => valX fn
  says := fun _ h => ∃ K : PySem.W.Frag, K.In h ∧ SaysX fa fn ex K
  of := fun _ _ e => ⟨_, He.frG_in, e⟩
  keeps := fun _ _ _ ⟨K, hK, c⟩ k => ⟨K, PySem.W.Frag.In.keeps hK k, c⟩
theorem obsXG_eq {n : Nat} {fa : List He.Fa} {fn : List He.DefD} {ex : List (PySem.W.Frag → Bool)} {g : Addr → Option Obj} {s : Shared} (h : ∀ a, g a = s.heap.get? a) : obsXG n fa fn ex g = (hookX n fa fn ex).obs s := by
  have e : g = s.heap.get? := funext h
  rw [e] <;> rfl
section
variable {fa : List He.Fa} {fn : List He.DefD} {ex : List (PySem.W.Frag → Bool)} {K : PySem.W.Frag}
theorem SaysX.d (c : SaysX fa fn ex K) : He.SaysD fa fn K := congrArg (fun z : AlX => z.2) c
theorem SaysX.extra (c : SaysX fa fn ex K) (i : Nat) {t : PySem.W.Frag → Bool} (h : ex[i]? = some t := by rfl) : t K = true := by
  have c1 : (ex.all fun t => t K) = true := congrArg (fun z : AlX => z.1) c
  exact List.all_eq_true.mp c1 t (List.mem_of_getElem? h)
end
theorem xcD_of {X : Cx} {x : Str} (hm : X.mg x = some (.ref (He.ga X.K x))) (h : PySem.W.excIn X.K (He.ga X.K x) He.veBase "ValueError.__new__" = true ∧ PySem.W.keepIn X.K (.ref (He.ga X.K x)) = true ∧ PySem.W.subIn X.K (.ref (He.ga X.K x)) (.type "BaseException") = some true ∧
    PySem.W.typeIn X.K (.ref (He.ga X.K x)) = some (.type "type")) : XcD X x := ⟨He.ga X.K x, He.veBase, "ValueError", "ValueError.__new__", "ValueError.__init__", h.1, hm, h.2.1, raises_own h.2.2.1 h.2.2.2, PySem.F.excBase_ValueError⟩
end DL

namespace DL
open PySem PySem.Spec PyProof.Rows L2

/-! ### DL20: a written triple of names; blocks within blocks -/
section
variable {X : Cx} {b : Bs} {W : WX} {pos : Pos}
/-- x, y, z = a, c, d with plain local names -/
theorem ds_par3 {i j l : Nat} {x y z : Str} {a c d : Expr} {φ : M (List AV)} {px py pz pt : Pos} {kt k2 pt2} (hc : X.calm = true) (hN : X.N.Nodup) (hi : X.N[i]? = some x) (hj : X.N[j]? = some y) (hl : X.N[l]? = some z) (hij : i ≠ j) (hil : i ≠ l) (hjl : j ≠ l)
    (hx : X.env.scope.names.lookup x = some .local) (hy : X.env.scope.names.lookup y = some .local) (hz : X.env.scope.names.lookup z = some .local) (ha : PA X [a, c, d] (tR W φ b))
    (hw : swappedStores [.Tuple [.Name x px, .Name y py, .Name z pz] kt pt] (.Tuple [a, c, d] k2 pt2) X.env = pure (some [x, y, z]))
    (hs : swapsWithSole [.Tuple [.Name x px, .Name y py, .Name z pz] kt pt] (.Tuple [a, c, d] k2 pt2) pos.line X.env = pure false := by rfl) :
    PS X (.Assign [.Tuple [.Name x px, .Name y py, .Name z pz] kt pt] (.Tuple [a, c, d] k2 pt2) pos) (tS b W (mPar [i, j, l] φ)) := by
  refine weakS (L2.ps_par3 hc hN hi hj hl hij hil hjl hx hy hz ha hw hs) fun D σ H ⟨F, ρ, k, h⟩ => ?_
  refine runSR k h fun avs vs ρ1 F1 H1 k1 s1 r1 h1 => ?_
  obtain ⟨hl, q⟩ := Then.asgs k1 r1 h1
  match vs, hl with
  | [u, v, w], _ => exact ⟨u, v, w, rfl, q⟩
end
theorem blk_sc {N N' : List Str} {sc sc' scope : Scope} {own : List (Str × Nat)} (h1 : N = N') (h2 : sc = sc') (h : BlkOk N' sc' scope own) : BlkOk N sc scope own := by
  subst h1
  subst h2
  exact h
theorem hu1 {n c : Nat} (h : n + 64 < c) : n + 1 < c := by omega
end DL

namespace DL
open PySem PySem.Spec PyProof.Rows L2
/-! ### running mirrors -/
theorem bnd_app {α β : Type} (m : M α) (f : α → M β) (ρ : Env) : m.bnd f ρ = match m ρ with
  | .ok a ρ' => f a ρ'
  | .ex e ρ' => .ex e ρ'
  | .no => .no := rfl
theorem ret_app {α : Type} (a : α) (ρ : Env) : M.ret a ρ = .ok a ρ := rfl
theorem stuck_app {α : Type} (ρ : Env) : (M.stuck : M α) ρ = .no := rfl
@[simp] theorem bnd_appS {α β : Type} (m : M α) (f : α → M β) (ρ : Env) : m.bnd f ρ = match m ρ with
  | .ok a ρ' => f a ρ'
  | .ex e ρ' => .ex e ρ'
  | .no => .no := rfl
@[simp] theorem ret_appS {α : Type} (a : α) (ρ : Env) : M.ret a ρ = .ok a ρ := rfl
@[simp] theorem stuck_appS {α : Type} (ρ : Env) : (M.stuck : M α) ρ = .no := rfl
@[simp] theorem rd_fz (d : D) (ρ : Env) : rd (.fz d) ρ = .ok d ρ := rfl
@[simp] theorem rd_ow (d : D) (ρ : Env) : rd (.ow d) ρ = .ok d ρ := rfl
@[simp] theorem rd_sl (i : Nat) (ρ : Env) : rd (.sl i) ρ = match (ρ[i]?).bind Sl.data? with
  | some d => .ok d ρ
  | none => .no := rfl
@[simp] theorem data_fz (d : D) : (Sl.fz d).data? = some d := rfl
@[simp] theorem data_ow (d : D) : (Sl.ow d).data? = some d := rfl
@[simp] theorem data_bo (d : D) : (Sl.bo d).data? = some d := rfl
@[simp] theorem data_un : Sl.un.data? = none := rfl
@[simp] theorem held_fz (d : D) : (Sl.fz d).held = false := rfl
@[simp] theorem held_ow (d : D) : (Sl.ow d).held = true := rfl
@[simp] theorem held_bo (d : D) : (Sl.bo d).held = true := rfl
@[simp] theorem held_un : Sl.un.held = false := rfl
@[simp] theorem put_ow (d e : D) : (Sl.ow d).put e = .ow e := rfl
@[simp] theorem put_bo (d e : D) : (Sl.bo d).put e = .bo e := rfl
@[simp] theorem isBo_fz (d : D) : isBo (.fz d) = false := rfl
@[simp] theorem isBo_ow (d : D) : isBo (.ow d) = false := rfl
@[simp] theorem isBo_bo (d : D) : isBo (.bo d) = true := rfl
@[simp] theorem isBo_un : isBo .un = false := rfl
@[simp] theorem stab_fz (d : D) : stab (.fz d) = .fz d := rfl
@[simp] theorem stab_ow (d : D) : stab (.ow d) = .fz d := rfl
@[simp] theorem stab_sl (i : Nat) : stab (.sl i) = .sl i := rfl
@[simp] theorem frz_fz (d : D) (ρ : Env) : frz (.fz d) ρ = .ok d ρ := rfl
@[simp] theorem frz_ow (d : D) (ρ : Env) : frz (.ow d) ρ = .ok d ρ := rfl
@[simp] theorem frz_sl (i : Nat) (ρ : Env) : frz (.sl i) ρ = match ρ[i]? with
  | some (.fz d) => .ok d ρ
  | some (.ow d) => .ok d (ρ.set i (.fz d))
  | _ => .no := rfl
@[simp] theorem mVar_app (i : Nat) (ρ : Env) : mVar i ρ = match ρ[i]? with
  | some .un => .no
  | some _ => .ok (.sl i) ρ
  | none => .no := rfl
@[simp] theorem mC_app (d : D) (ρ : Env) : mC d ρ = .ok (.fz d) ρ := rfl
@[simp] theorem lift_some {α : Type} (a : α) (ρ : Env) : lift (some a) ρ = .ok a ρ := rfl
@[simp] theorem lift_none {α : Type} (ρ : Env) : (lift none : M α) ρ = .no := rfl
@[simp] theorem isBl_bl (k : Bool) (ρ : Env) : isBl (.bl k) ρ = .ok k ρ := rfl
@[simp] theorem mOp_app (f : D → D → Option AV) (φ ψ : M AV) (ρ : Env) : mOp f φ ψ ρ = (φ.bnd fun a => ψ.bnd fun c => (rd (stab a)).bnd fun x => (rd (stab c)).bnd fun y => lift (f x y)) ρ := rfl
@[simp] theorem mUn_app (f : D → Option AV) (φ : M AV) (ρ : Env) : mUn f φ ρ = (φ.bnd fun a => (rd (stab a)).bnd fun x => lift (f x)) ρ := rfl
@[simp] theorem mCall_app (f : List D → Option AV) (φ : M (List AV)) (ρ : Env) : mCall f φ ρ = (φ.bnd fun avs => (rdAll avs).bnd fun ds => lift (f ds)) ρ := rfl
@[simp] theorem rdAll_nil (ρ : Env) : rdAll [] ρ = .ok [] ρ := rfl
@[simp] theorem rdAll_cons (a : AV) (r : List AV) (ρ : Env) : rdAll (a :: r) ρ = ((rd a).bnd fun d => (rdAll r).bnd fun ds => M.ret (d :: ds)) ρ := rfl
@[simp] theorem frzAll_nil (ρ : Env) : frzAll [] ρ = .ok [] ρ := rfl
@[simp] theorem frzAll_cons (a : AV) (r : List AV) (ρ : Env) : frzAll (a :: r) ρ = ((frz a).bnd fun d => (frzAll r).bnd fun ds => M.ret (d :: ds)) ρ := rfl
@[simp] theorem mNil_app (ρ : Env) : mNil ρ = .ok [] ρ := rfl
@[simp] theorem mCons_app (φ : M AV) (ψ : M (List AV)) (ρ : Env) : mCons φ ψ ρ = (φ.bnd fun a => ψ.bnd fun r => M.ret (stab a :: r)) ρ := rfl
@[simp] theorem mTup_app (φ : M (List AV)) (ρ : Env) : mTup φ ρ = (φ.bnd fun avs => (frzAll avs).bnd fun ds => if ds.length ≤ sizeLine then M.ret (.fz (.tup ds)) else M.stuck) ρ := rfl
@[simp] theorem mLst_app (φ : M (List AV)) (ρ : Env) : mLst φ ρ = (φ.bnd fun avs => (frzAll avs).bnd fun ds => if ds.length ≤ sizeLine then M.ret (.ow (.lst ds)) else M.stuck) ρ := rfl
@[simp] theorem mTest_app (φ : M AV) (ρ : Env) : mTest φ ρ = (φ.bnd fun a => (rd a).bnd isBl) ρ := rfl
@[simp] theorem mNot_app (φ : M Bool) (ρ : Env) : mNot φ ρ = (φ.bnd fun k => M.ret (!k)) ρ := rfl
@[simp] theorem mIf_app {α : Type} (t : M Bool) (φ ψ : M α) (ρ : Env) : mIf t φ ψ ρ = match t ρ with
  | .ok k ρ' => if k then φ ρ' else ψ ρ'
  | .ex e ρ' => .ex e ρ'
  | .no => .no := by
  unfold mIf
  rw [bnd_app]
  cases t ρ with
  | ok k ρ' => cases k <;> rfl
  | _ => rfl
@[simp] theorem mAnd_app (φ ψ : M Bool) (ρ : Env) : mAnd φ ψ ρ = match φ ρ with
  | .ok k ρ' => if k then ψ ρ' else .ok false ρ'
  | .ex e ρ' => .ex e ρ'
  | .no => .no := by
  unfold mAnd
  rw [bnd_app]
  cases φ ρ with
  | ok k ρ' => cases k <;> rfl
  | _ => rfl
@[simp] theorem mOr_app (φ ψ : M Bool) (ρ : Env) : mOr φ ψ ρ = match φ ρ with
  | .ok k ρ' => if k then .ok true ρ' else ψ ρ'
  | .ex e ρ' => .ex e ρ'
  | .no => .no := by
  unfold mOr
  rw [bnd_app]
  cases φ ρ with
  | ok k ρ' => cases k <;> rfl
  | _ => rfl
@[simp] theorem mSeq_app (φ ψ : M Ctl) (ρ : Env) : mSeq φ ψ ρ = match φ ρ with
  | .ok .nx ρ' => ψ ρ'
  | r => r := by
  unfold mSeq
  rw [bnd_app]
  cases φ ρ with
  | ok k ρ' => cases k <;> rfl
  | _ => rfl
@[simp] theorem mRet_app (φ : M AV) (ρ : Env) : mRet φ ρ = (φ.bnd fun av => M.ret (.rt av)) ρ := rfl
@[simp] theorem mExpr_app (φ : M AV) (ρ : Env) : mExpr φ ρ = (φ.bnd fun _ => M.ret .nx) ρ := rfl
@[simp] theorem mRaise_app (x : Str) (ρ : Env) : mRaise x ρ = .ex ⟨x, []⟩ ρ := rfl
@[simp] theorem setFz_app (i : Nat) (d : D) (ρ : Env) : setFz i d ρ = match ρ[i]? with
  | some s => if isBo s then .no else .ok () (ρ.set i (.fz d))
  | none => .no := rfl
@[simp] theorem asg_fz (i : Nat) (d : D) : asg i (.fz d) = setFz i d := rfl
@[simp] theorem asg_ow (i : Nat) (d : D) (ρ : Env) : asg i (.ow d) ρ = match ρ[i]? with
  | some s => if isBo s then .no else .ok () (ρ.set i (.ow d))
  | none => .no := rfl
@[simp] theorem asg_sl (i j : Nat) (ρ : Env) : asg i (.sl j) ρ = ((frz (.sl j)).bnd fun d => setFz i d) ρ := rfl
@[simp] theorem mAsg_app (i : Nat) (φ : M AV) (ρ : Env) : mAsg i φ ρ = (φ.bnd fun av => (asg i av).bnd fun _ => M.ret .nx) ρ := rfl
@[simp] theorem mAsgM_app (φ : M AV) (ψ : D → M Unit) (ρ : Env) : mAsgM φ ψ ρ = (φ.bnd fun av => (frz av).bnd fun d => (ψ d).bnd fun _ => M.ret .nx) ρ := rfl
@[simp] theorem gmTup_app (n : Nat) (χ : List D → M Unit) (ds : List D) : gmTup n χ (.tup ds) = if ds.length = n then χ ds else M.stuck := rfl
@[simp] theorem gmCons_app (ψ : D → M Unit) (χ : List D → M Unit) (d : D) (ds : List D) : gmCons ψ χ (d :: ds) = (ψ d).bnd fun _ => χ ds := rfl
@[simp] theorem gmNil_app (ρ : Env) : gmNil [] ρ = .ok () ρ := rfl
@[simp] theorem gmSub_app (φ ψ : M AV) (x : D) (ρ : Env) : gmSub φ ψ x ρ = (φ.bnd fun a => ψ.bnd fun i => (rd (stab i)).bnd fun k => putAt (stab a) k x) ρ := rfl
@[simp] theorem putAt_sl (i : Nat) (k x : D) (ρ : Env) : putAt (.sl i) k x ρ = match ρ[i]? with
    | some s => if s.held then match s.data? with
        | some d => match setD d k x with
          | some d' => .ok () (ρ.set i (s.put d'))
          | none => .no
        | none => .no
      else .no
    | none => .no := rfl
@[simp] theorem mutAt_sl (f : D → List D → Option (D × D)) (i : Nat) (ds : List D) (ρ : Env) : mutAt f (.sl i) ds ρ = match ρ[i]? with
    | some s => if s.held then match s.data? with
        | some d => match f d ds with
          | some (d', r) => .ok (.fz r) (ρ.set i (s.put d'))
          | none => .no
        | none => .no
      else .no
    | none => .no := rfl
@[simp] theorem mRead_app (T : String) (f : D → List D → Option AV) (φ : M AV) (ψ : M (List AV)) (ρ : Env) : mRead T f φ ψ ρ = (φ.bnd fun a => (rd (stab a)).bnd fun d0 => if kindD d0 = T then ψ.bnd fun avs => (rd (stab a)).bnd fun d => (rdAll avs).bnd fun ds => lift (f d ds) else M.stuck) ρ := rfl
@[simp] theorem mMut_app (T : String) (f : D → List D → Option (D × D)) (φ : M AV) (ψ : M (List AV)) (ρ : Env) : mMut T f φ ψ ρ = (φ.bnd fun a => (rd (stab a)).bnd fun d0 => if kindD d0 = T then ψ.bnd fun avs => (frzAll avs).bnd fun ds => mutAt f (stab a) ds else M.stuck) ρ := rfl
@[simp] theorem kindD_str (s : Str) : kindD (.str s) = "str" := rfl
@[simp] theorem kindD_lst (s : List D) : kindD (.lst s) = "list" := rfl
@[simp] theorem kindD_dct (s : List (D × D)) : kindD (.dct s) = "dict" := rfl
@[simp] theorem mRc_app (m : Md) (φ : M AV) (ψ : M (List AV)) (ρ : Env) : mRc m φ ψ ρ = (φ.bnd fun a => (modeM m a).bnd fun a => ψ.bnd fun r => M.ret (a :: r)) ρ := rfl
@[simp] theorem mode_fz (a : AV) (ρ : Env) : modeM .fz a ρ = ((frz a).bnd fun d => M.ret (.fz d)) ρ := rfl
@[simp] theorem mode_keep (a : AV) (ρ : Env) : modeM .keep a ρ = .ok a ρ := rfl
@[simp] theorem mode_us (i : Nat) (ρ : Env) : modeM .unsl (.sl i) ρ = ((frz (.sl i)).bnd fun d => M.ret (.fz d)) ρ := rfl
@[simp] theorem mode_uf (d : D) (ρ : Env) : modeM .unsl (.fz d) ρ = .ok (.fz d) ρ := rfl
@[simp] theorem mode_uo (d : D) (ρ : Env) : modeM .unsl (.ow d) ρ = .ok (.ow d) ρ := rfl
@[simp] theorem mPar_app (is : List Nat) (φ : M (List AV)) (ρ : Env) : mPar is φ ρ = (φ.bnd fun avs => (mAsgs is avs).bnd fun _ => M.ret .nx) ρ := rfl
@[simp] theorem mAsgs_nil (ρ : Env) : mAsgs [] [] ρ = .ok () ρ := rfl
@[simp] theorem mAsgs_fz (i : Nat) (is : List Nat) (d : D) (as : List AV) (ρ : Env) : mAsgs (i :: is) (.fz d :: as) ρ = ((asg i (.fz d)).bnd fun _ => mAsgs is as) ρ := rfl
@[simp] theorem mAsgs_ow (i : Nat) (is : List Nat) (d : D) (as : List AV) (ρ : Env) : mAsgs (i :: is) (.ow d :: as) ρ = ((asg i (.ow d)).bnd fun _ => mAsgs is as) ρ := rfl
@[simp] theorem mCallF_app (n : Nat) (f : Fn) (φ : M (List AV)) (ρ : Env) : mCallF n f φ ρ = (φ.bnd fun avs => mFn n f avs) ρ := rfl
@[simp] theorem argOf_fz (ρ : Env) (d : D) : argOf ρ (.fz d) = some (.fz d, none) := rfl
@[simp] theorem argOf_ow (ρ : Env) (d : D) : argOf ρ (.ow d) = some (.bo d, some none) := rfl
@[simp] theorem argOf_sl (ρ : Env) (i : Nat) : argOf ρ (.sl i) = match ρ[i]? with
    | some (.fz d) => some (.fz d, none)
    | some (.ow d) => some (.bo d, some (some i))
    | some (.bo d) => some (.bo d, some (some i))
    | _ => none := rfl
@[simp] theorem argsOf_nil (ρ : Env) : argsOf ρ [] = some ([], []) := rfl
@[simp] theorem argsOf_cons (ρ : Env) (a : AV) (r : List AV) : argsOf ρ (a :: r) = match argOf ρ a, argsOf ρ r with
    | some (s, none), some (ks, is) => some (s :: ks, is)
    | some (s, some none), some (ks, is) => some (s :: ks, none :: is)
    | some (s, some (some i)), some (ks, is) => if some i ∈ is then none else some (s :: ks, some i :: is)
    | _, _ => none := rfl
@[simp] theorem mFn_app (n : Nat) (f : Fn) (avs : List AV) (ρ : Env) : mFn n f avs ρ = if avs.length = n then match argsOf ρ avs with
  | none => .no
  | some (ks, is) => match f ks with
    | .ok own d bs => .ok (if own then .ow d else .fz d) (putB is bs ρ)
    | .ex e bs => .ex e (putB is bs ρ)
    | .no => .no
  else .no := by
  unfold mFn
  split <;> rfl
@[simp] theorem putB_nil (ds : List D) (ρ : Env) : putB [] ds ρ = ρ := by cases ds <;> rfl
@[simp] theorem putB_some (i : Nat) (is : List (Option Nat)) (d : D) (ds : List D) (ρ : Env) : putB (some i :: is) (d :: ds) ρ = putB is ds (ρ.set i (((ρ[i]?).getD .un).put d)) := rfl
@[simp] theorem putB_none (is : List (Option Nat)) (d : D) (ds : List D) (ρ : Env) : putB (none :: is) (d :: ds) ρ = putB is ds ρ := rfl
@[simp] theorem isNon_non : isNon .non = true := rfl
@[simp] theorem isNon_str (s : Str) : isNon (.str s) = false := rfl
@[simp] theorem isNon_tup (s : List D) : isNon (.tup s) = false := rfl
@[simp] theorem keyOf_str (s : Str) : keyOf (.str s) = some (.inr s) := rfl
@[simp] theorem keyOf_int (s : Int) : keyOf (.int s) = some (.inl s) := rfl
@[simp] theorem opIs_non (d : D) : opIs d .non = some (.fz (.bl (isNon d))) := rfl
@[simp] theorem opIsNot_non (d : D) : opIsNot d .non = some (.fz (.bl (!isNon d))) := rfl
@[simp] theorem opIn_dct (x : Str) (kvs : List (D × D)) : opIn (.str x) (.dct kvs) = some (.fz (.bl (getK kvs (.inr x)).isSome)) := rfl
@[simp] theorem opNotIn_dct (x : Str) (kvs : List (D × D)) : opNotIn (.str x) (.dct kvs) = some (.fz (.bl !(getK kvs (.inr x)).isSome)) := rfl
@[simp] theorem ix_dctS (kvs : List (D × D)) (x : Str) : ixD (.dct kvs) (.str x) = (getK kvs (.inr x)).map .fz := by
  show ((keyOf (.str x)).bind fun x => (getK kvs x).map AV.fz) = _
  rfl
@[simp] theorem setD_dct (kvs : List (D × D)) (x : Str) (v : D) : setD (.dct kvs) (.str x) v = if kvs.length < sizeLine then some (.dct (putD kvs (.str x) v)) else none := by
  unfold setD
  simp
@[simp] theorem opAdd_str (a c : Str) : opAdd (.str a) (.str c) = if a.length + c.length ≤ sizeLine then some (.fz (.str (a ++ c))) else none := rfl
@[simp] theorem opAdd_int (a c : Int) : opAdd (.int a) (.int c) = some (.fz (.int (a + c))) := rfl
@[simp] theorem eqD_strs (a c : Str) (n : Nat) : eqD (.str a) n (.str c) = some (decide (a = c)) := by
  unfold eqD
  by_cases h : a = c
  · subst h; simp [fl, eqV]
  · simp [fl, eqV, h]
@[simp] theorem opEq_str (a c : Str) : opEq (.str a) (.str c) = some (.fz (.bl (decide (a = c)))) := by simp [opEq]
@[simp] theorem opNe_str (a c : Str) : opNe (.str a) (.str c) = some (.fz (.bl !(decide (a = c)))) := by simp [opNe]
theorem bnd_ok {α β : Type} {m : M α} {f : α → M β} {ρ ρ' : Env} {a : α} (h : m ρ = .ok a ρ') : m.bnd f ρ = f a ρ' := by rw [bnd_app, h]
theorem seq_nx {φ ψ : M Ctl} {ρ ρ' : Env} (h : φ ρ = .ok .nx ρ') : mSeq φ ψ ρ = ψ ρ' := by unfold mSeq; rw [bnd_ok h]
theorem seq_rt {φ ψ : M Ctl} {ρ ρ' : Env} {a : AV} (h : φ ρ = .ok (.rt a) ρ') : mSeq φ ψ ρ = .ok (.rt a) ρ' := by unfold mSeq; rw [bnd_ok h]; rfl
theorem seq_ex {φ ψ : M Ctl} {ρ ρ' : Env} {e : Exn} (h : φ ρ = .ex e ρ') : mSeq φ ψ ρ = .ex e ρ' := by unfold mSeq; rw [bnd_app, h]
theorem if_t {α : Type} {t : M Bool} {φ ψ : M α} {ρ ρ' : Env} (h : t ρ = .ok true ρ') : mIf t φ ψ ρ = φ ρ' := by unfold mIf; rw [bnd_ok h]; rfl
theorem if_f {α : Type} {t : M Bool} {φ ψ : M α} {ρ ρ' : Env} (h : t ρ = .ok false ρ') : mIf t φ ψ ρ = ψ ρ' := by unfold mIf; rw [bnd_ok h]; rfl
/-- a loop all of whose turns end well -/
theorem loop_inv {t : Tg} {body : M Ctl} (I : Env → Prop) : ∀ (ds : List D) (ρ : Env), I ρ → (∀ d ∈ ds, ∀ ρ, I ρ → ∃ ρ1 ρ2, bindT t d ρ = .ok () ρ1 ∧ (body ρ1 = .ok .nx ρ2 ∨ body ρ1 = .ok .ct ρ2) ∧ I ρ2) → ∃ ρ', loopF t body ds ρ = .ok .nx ρ' ∧ I ρ'
  | [], ρ, h, _ => ⟨ρ, rfl, h⟩
  | d :: ds, ρ, h, hb => by
    obtain ⟨ρ1, ρ2, h1, h2, h3⟩ := hb d List.mem_cons_self ρ h
    obtain ⟨ρ', h4, h5⟩ := loop_inv I ds ρ2 h3 fun d hd => hb d (List.mem_cons_of_mem _ hd)
    refine ⟨ρ', ?_, h5⟩
    unfold loopF
    rw [bnd_ok h1]
    rcases h2 with h2 | h2 <;> simp only [h2] <;> exact h4
/-- .. with a state that is carried along -/
theorem loop_acc {t : Tg} {body : M Ctl} {α : Type} (I : α → Env → Prop) (f : α → D → α) : ∀ (ds : List D) (a : α) (ρ : Env), I a ρ → (∀ d ∈ ds, ∀ a ρ, I a ρ → ∃ ρ1 ρ2, bindT t d ρ = .ok () ρ1 ∧ (body ρ1 = .ok .nx ρ2 ∨ body ρ1 = .ok .ct ρ2) ∧ I (f a d) ρ2) → ∃ ρ', loopF t body ds ρ = .ok .nx ρ' ∧ I (ds.foldl f a) ρ'
  | [], a, ρ, h, _ => ⟨ρ, rfl, h⟩
  | d :: ds, a, ρ, h, hb => by
    obtain ⟨ρ1, ρ2, h1, h2, h3⟩ := hb d List.mem_cons_self a ρ h
    obtain ⟨ρ', h4, h5⟩ := loop_acc I f ds _ ρ2 h3 fun d hd => hb d (List.mem_cons_of_mem _ hd)
    refine ⟨ρ', ?_, h5⟩
    unfold loopF
    rw [bnd_ok h1]
    rcases h2 with h2 | h2 <;> simp only [h2] <;> exact h4
theorem for_run {items : M (List D)} {t : Tg} {body : M Ctl} {ρ ρ' : Env} {ds : List D} (h : items ρ = .ok ds ρ') : mFor items t body ρ = loopF t body ds ρ' := by unfold mFor; rw [bnd_ok h]
end DL

namespace DL
open PySem L2
/-! ### dicts by their keys -/
def hasK (kvs : List (D × D)) (x : Key) : Bool := kvs.any fun p => decide (keyOf p.1 = some x)
theorem hasK_iff {x : Key} : ∀ {kvs : List (D × D)}, hasK kvs x = (getK kvs x).isSome
  | [] => rfl
  | (k, d) :: r => by
    unfold hasK getK
    rw [List.any_cons]
    by_cases h : keyOf k = some x
    · rw [if_pos h, decide_eq_true (by exact h)]; rfl
    · rw [if_neg h, decide_eq_false (by exact h)]; exact hasK_iff (kvs := r)
theorem getK_cons {x : Key} {k d : D} {r : List (D × D)} : getK ((k, d) :: r) x = if keyOf k = some x then some d else getK r x := rfl
theorem getK_append {x : Key} : ∀ {a c : List (D × D)}, getK (a ++ c) x = (getK a x).or (getK c x)
  | [], c => by
    show getK c x = (none : Option D).or (getK c x)
    cases getK c x <;> rfl
  | (k, d) :: r, c => by
    show getK ((k, d) :: (r ++ c)) x = _
    rw [getK_cons, getK_cons]
    by_cases h : keyOf k = some x
    · rw [if_pos h, if_pos h]; rfl
    · rw [if_neg h, if_neg h]; exact getK_append
theorem getK_map {x kk : Key} {k v : D} (e : keyOf k = some kk) : ∀ {kvs : List (D × D)}, getK (kvs.map fun p => if keyOf p.1 = keyOf k then (p.1, v) else p) x = if kk = x then (if hasK kvs x then some v else none) else getK kvs x
  | [] => by
    show none = _
    by_cases h : kk = x
    · rw [if_pos h]; rfl
    · rw [if_neg h]; rfl
  | (c, d) :: r => by
    rw [List.map_cons]
    have ih := getK_map e (v := v) (x := x) (kvs := r)
    rw [e] at ih ⊢
    by_cases h : keyOf c = some kk
    · rw [if_pos (by exact h)]
      unfold getK
      by_cases hx : kk = x
      · subst hx
        rw [if_pos h, if_pos rfl]
        unfold hasK
        rw [List.any_cons, decide_eq_true (by exact h)]
        rfl
      · have h' : ¬ keyOf c = some x := by rw [h]; exact fun q => hx (Option.some.inj q)
        rw [if_neg h', if_neg h', ih, if_neg hx, if_neg hx]
    · rw [if_neg (by exact h)]
      unfold getK
      by_cases hc : keyOf c = some x
      · have hx : ¬ kk = x := fun q => h (by rw [q]; exact hc)
        rw [if_pos hc, if_pos hc, if_neg hx]
      · rw [if_neg hc, if_neg hc, ih]
        by_cases hx : kk = x
        · rw [if_pos hx, if_pos hx]
          unfold hasK
          rw [List.any_cons, decide_eq_false (by exact hc), Bool.false_or]
        · rw [if_neg hx, if_neg hx]
theorem getK_put {x kk : Key} {k v : D} {kvs : List (D × D)} (e : keyOf k = some kk) : getK (putD kvs k v) x = if kk = x then some v else getK kvs x := by
  unfold putD
  have eh : (kvs.any fun p => decide (keyOf p.1 = keyOf k)) = hasK kvs kk := by unfold hasK; rw [e]
  rw [eh]
  by_cases h : hasK kvs kk = true
  · rw [if_pos h, getK_map e]
    by_cases hx : kk = x
    · subst hx; rw [if_pos rfl, if_pos rfl, if_pos h]
    · rw [if_neg hx, if_neg hx]
  · rw [if_neg h, getK_append]
    have hn : getK kvs kk = none := by
      rw [hasK_iff] at h
      cases q : getK kvs kk with
      | none => rfl
      | some y => rw [q] at h; exact absurd rfl h
    by_cases hx : kk = x
    · subst hx
      rw [if_pos rfl, hn]
      unfold getK
      rw [if_pos e]; rfl
    · rw [if_neg hx]
      have : getK [(k, v)] x = none := by
        unfold getK
        rw [if_neg (by rw [e]; exact fun q => hx (Option.some.inj q))]
        rfl
      rw [this, Option.or_none]
theorem len_put {kk : Key} {k v : D} {kvs : List (D × D)} (e : keyOf k = some kk) : (putD kvs k v).length = if (getK kvs kk).isSome then kvs.length else kvs.length + 1 := by
  unfold putD
  have eh : (kvs.any fun p => decide (keyOf p.1 = keyOf k)) = hasK kvs kk := by unfold hasK; rw [e]
  rw [eh, hasK_iff]
  split
  · rw [List.length_map]
  · rw [List.length_append]; rfl
@[simp] theorem getK_putS {x y : Str} {v : D} {kvs : List (D × D)} : getK (putD kvs (.str y) v) (.inr x) = if y = x then some v else getK kvs (.inr x) := by
  rw [getK_put (kk := .inr y) rfl]
  by_cases h : y = x
  · subst h; simp
  · rw [if_neg (fun q => h (Sum.inr.inj q)), if_neg h]
/-! ### lists -/
theorem seqI_last {n : Nat} (h : 0 < n) : ixN n (-1) = some (n - 1) := by
  unfold ixN
  simp
  omega
@[simp] theorem ix_last (l : List D) (x : D) : ixD (.lst (l ++ [x])) (.int (-1)) = some (.fz x) := by
  unfold ixD
  show ((atI (l ++ [x]) (-1)).map AV.fz) = _
  unfold atI
  rw [seqI_last (by simp)]
  simp
@[simp] theorem unNeg_int (i : Int) : unNeg (.int i) = some (.fz (.int (-i))) := rfl
@[simp] theorem opNe_nil (l : List D) : opNe (.lst l) (.lst []) = some (.fz (.bl !l.isEmpty)) := by
  unfold opNe eqD
  cases l with
  | nil => simp [eqL]
  | cons a r => simp
@[simp] theorem lAppend_app (l : List D) (x : D) : lAppend (.lst l) [x] = if l.length < sizeLine then some (.lst (l ++ [x]), .non) else none := rfl
@[simp] theorem lPop_last (l : List D) (x : D) : lPop (.lst (l ++ [x])) [] = some (.lst l, x) := by
  unfold lPop
  simp
/-! ### dict displays -/
@[simp] theorem mDisp_app (l : List (M AV × M AV)) (ρ : Env) : mDisp l ρ = ((mPairs l).bnd fun ps => if (ps.all fun p => (keyOf p.1).isSome) = true ∧ ps.length ≤ 15 then M.ret (.ow (.dct (mergeD [] ps))) else M.stuck) ρ := rfl
@[simp] theorem mPairs_nil (ρ : Env) : mPairs [] ρ = .ok [] ρ := rfl
@[simp] theorem mPairs_cons (φ ψ : M AV) (r : List (M AV × M AV)) (ρ : Env) : mPairs ((φ, ψ) :: r) ρ = (φ.bnd fun a => (frz a).bnd fun k => ψ.bnd fun c => (frz c).bnd fun v => (mPairs r).bnd fun l => M.ret ((k, v) :: l)) ρ := rfl
@[simp] theorem mergeD_nil (a : List (D × D)) : mergeD a [] = a := rfl
@[simp] theorem mergeD_cons (a : List (D × D)) (k v : D) (r : List (D × D)) : mergeD a ((k, v) :: r) = mergeD (putD a k v) r := rfl
@[simp] theorem putD_nil (k v : D) : putD [] k v = [(k, v)] := rfl
theorem sl_line (n : Nat) (h : n ≤ 16777216) : n ≤ sizeLine := by rw [sizeLine_eq]; exact h
theorem while_t {t : M Bool} {b : M Ctl} {n : Nat} {ρ ρ1 ρ2 : Env} (h1 : t ρ = .ok true ρ1) (h2 : b ρ1 = .ok .nx ρ2) : mWhile t b (n + 1) ρ = mWhile t b n ρ2 := by
  rw [mWhile, bnd_ok h1]
  simp only [if_true, h2]
theorem while_f {t : M Bool} {b : M Ctl} {n : Nat} {ρ ρ1 : Env} (h1 : t ρ = .ok false ρ1) : mWhile t b (n + 1) ρ = .ok .nx ρ1 := by
  rw [mWhile, bnd_ok h1]
  rfl
/-- a loop by the turn's number -/
theorem loop_from {t : Tg} {body : M Ctl} (I : Nat → Env → Prop) : ∀ (ds : List D) (n : Nat) (ρ : Env), I n ρ → (∀ (i : Nat) (d : D), ds[i]? = some d → ∀ ρ, I (n + i) ρ → ∃ ρ1 ρ2, bindT t d ρ = .ok () ρ1 ∧ (body ρ1 = .ok .nx ρ2 ∨ body ρ1 = .ok .ct ρ2) ∧ I (n + i + 1) ρ2) → ∃ ρ', loopF t body ds ρ = .ok .nx ρ' ∧ I (n + ds.length) ρ'
  | [], n, ρ, h, _ => ⟨ρ, rfl, h⟩
  | d :: ds, n, ρ, h, hb => by
    obtain ⟨ρ1, ρ2, h1, h2, h3⟩ := hb 0 d rfl ρ h
    obtain ⟨ρ', h4, h5⟩ := loop_from I ds (n + 1) ρ2 h3 fun i d hd ρ hI => by
      have e : n + 1 + i = n + (i + 1) := by omega
      rw [e] at hI ⊢
      exact hb (i + 1) d hd ρ hI
    refine ⟨ρ', ?_, by rw [List.length_cons]; have e : n + (ds.length + 1) = n + 1 + ds.length := by omega
                       rw [e]; exact h5⟩
    unfold loopF
    rw [bnd_ok h1]
    rcases h2 with h2 | h2 <;> simp only [h2] <;> exact h4
theorem loop_ix {t : Tg} {body : M Ctl} (I : Nat → Env → Prop) (ds : List D) (ρ : Env) (h : I 0 ρ) (hb : ∀ (i : Nat) (d : D), ds[i]? = some d → ∀ ρ, I i ρ → ∃ ρ1 ρ2, bindT t d ρ = .ok () ρ1 ∧ (body ρ1 = .ok .nx ρ2 ∨ body ρ1 = .ok .ct ρ2) ∧ I (i + 1) ρ2) : ∃ ρ', loopF t body ds ρ = .ok .nx ρ' ∧ I ds.length ρ' := by
  obtain ⟨ρ', h1, h2⟩ := loop_from I ds 0 ρ h fun i d hd ρ hI => by
    rw [Nat.zero_add] at hI ⊢
    exact hb i d hd ρ hI
  rw [Nat.zero_add] at h2
  exact ⟨ρ', h1, h2⟩
@[simp] theorem bind_nm (i : Nat) (d : D) : bindT (.nm i) d = setFz i d := by unfold bindT; rfl
theorem putD_new {k v : D} {kk : Key} {kvs : List (D × D)} (e : keyOf k = some kk) (h : getK kvs kk = none) : putD kvs k v = kvs ++ [(k, v)] := by
  unfold putD
  have eh : (kvs.any fun p => decide (keyOf p.1 = keyOf k)) = hasK kvs kk := by unfold hasK; rw [e]
  rw [eh, hasK_iff, h]
  rfl
end DL

namespace DL
open PySem PySem.Spec PyProof.Rows L2
/-! ### DM3: comprehensions with one name -/
theorem wipe1 {i : Nat} {ρ ρ1 : Env} (h : wipeE [i] ρ = some ρ1) : ρ1 = ρ.set i .un ∧ ∃ s, ρ[i]? = some s ∧ isBo s = false := by
  unfold wipeE wipeE at h
  dsimp only at h
  cases e : ρ[i]? with
  | none => rw [e] at h; cases h
  | some s =>
    rw [e] at h
    cases s with
    | bo d => cases h
    | un => exact ⟨(Option.some.inj h).symm, _, rfl, rfl⟩
    | fz d => exact ⟨(Option.some.inj h).symm, _, rfl, rfl⟩
    | ow d => exact ⟨(Option.some.inj h).symm, _, rfl, rfl⟩
theorem wipe1_of {i : Nat} {ρ : Env} {s : Sl} (h : ρ[i]? = some s) (hb : isBo s = false) : wipeE [i] ρ = some (ρ.set i .un) := by
  unfold wipeE wipeE
  dsimp only
  rw [h]
  cases s with
  | bo d => cases hb
  | _ => rfl
/-- what is there again behind a block -/
def rsS : Sl → Sl
  | .fz d => .fz d
  | _ => .un
@[simp] theorem rsS_fz (d : D) : rsS (.fz d) = .fz d := rfl
@[simp] theorem rsS_ow (d : D) : rsS (.ow d) = .un := rfl
@[simp] theorem rsS_bo (d : D) : rsS (.bo d) = .un := rfl
@[simp] theorem rsS_un : rsS .un = .un := rfl
theorem rsS_bo' (s : Sl) : isBo (rsS s) = false := by cases s <;> rfl
theorem loopC_run {i : Nat} {τ : M Bool} {φ : M AV} {ρ0 ρ1 : Env} (hw : wipeE [i] ρ0 = some ρ1) {f : D → Option D} : ∀ (ds acc : List D),
    (∀ d ∈ ds, (f d = none → τ (ρ1.set i (.fz d)) = .ok false (ρ1.set i (.fz d))) ∧ ∀ x, f d = some x → τ (ρ1.set i (.fz d)) = .ok true (ρ1.set i (.fz d)) ∧ ∃ av, φ (ρ1.set i (.fz d)) = .ok av (ρ1.set i (.fz d)) ∧ frz av (ρ1.set i (.fz d)) = .ok x (ρ1.set i (.fz d))) →
    acc.length + ds.length ≤ 1000000 → loopC [i] (.nm i) τ φ ds acc ρ1 = .ok (acc ++ ds.filterMap f) ρ1
  | [], acc, _, _ => by
    rw [List.filterMap_nil, List.append_nil]
    rfl
  | d :: ds, acc, h, hl => by
    obtain ⟨rfl, s, e, hb⟩ := wipe1 hw
    have hi : i < ρ0.length := (List.getElem?_eq_some_iff.mp e).1
    have e1 : (ρ0.set i Sl.un)[i]? = some .un := List.getElem?_set_self hi
    have b1 : bindT (.nm i) d (ρ0.set i .un) = .ok () ((ρ0.set i .un).set i (.fz d)) := by
      rw [bind_nm, setFz_app, e1]
      rfl
    have w1 : wipeM [i] ((ρ0.set i .un).set i (.fz d)) = .ok () (ρ0.set i .un) := by
      unfold wipeM
      rw [wipe1_of (s := .fz d) (List.getElem?_set_self (by rw [List.length_set]; exact hi)) rfl]
      dsimp only
      rw [List.set_set, List.set_set]
    obtain ⟨h0, h1⟩ := h d List.mem_cons_self
    rw [List.length_cons] at hl
    unfold loopC
    rw [bnd_ok b1]
    cases ef : f d with
    | none =>
      rw [bnd_ok (h0 ef), List.filterMap_cons_none ef]
      show ((wipeM [i]).bnd _) _ = _
      rw [bnd_ok w1]
      exact loopC_run hw ds acc (fun d hd => h d (List.mem_cons_of_mem _ hd)) (by omega)
    | some x =>
      obtain ⟨t1, av, p1, p2⟩ := h1 x ef
      rw [bnd_ok t1, List.filterMap_cons_some ef]
      show (φ.bnd _) _ = _
      rw [bnd_ok p1, bnd_ok p2]
      have hz : acc.length < sizeLine := by have := sl_line 1000001 (by omega); omega
      show (if acc.length < sizeLine then (wipeM [i]).bnd fun _ => loopC [i] (.nm i) τ φ ds (acc ++ [x]) else M.stuck) _ = _
      rw [if_pos hz, bnd_ok w1, loopC_run hw ds (acc ++ [x]) (fun d hd => h d (List.mem_cons_of_mem _ hd)) (by rw [List.length_append, List.length_singleton]; omega), List.append_assoc]
      rfl
theorem comp_run {i : Nat} {ιs : M (List D)} {τ : M Bool} {φ : M AV} {ρ ρ0 : Env} {ds : List D} {s : Sl} (hi : ιs ρ = .ok ds ρ0) (e : ρ0[i]? = some s) (hb : isBo s = false) (f : D → Option D)
    (h : ∀ d ∈ ds, (f d = none → τ (ρ0.set i (.fz d)) = .ok false (ρ0.set i (.fz d))) ∧ ∀ x, f d = some x → τ (ρ0.set i (.fz d)) = .ok true (ρ0.set i (.fz d)) ∧ ∃ av, φ (ρ0.set i (.fz d)) = .ok av (ρ0.set i (.fz d)) ∧ frz av (ρ0.set i (.fz d)) = .ok x (ρ0.set i (.fz d)))
    (hl : ds.length ≤ 1000000) : mComp ιs [i] (.nm i) τ φ ρ = .ok (.ow (.lst (ds.filterMap f))) (ρ0.set i (rsS s)) := by
  unfold mComp
  rw [bnd_ok hi]
  have hw := wipe1_of e hb
  simp only [hw]
  have key := loopC_run (τ := τ) (φ := φ) hw ds [] (f := f) (fun d hd => by
    rw [List.set_set]
    exact h d hd) (by simpa using hl)
  simp only [key]
  rw [List.nil_append]
  unfold restE restE
  rw [e, List.set_set]
  cases s <;> rfl
/-- no test -/
theorem comp_map {i : Nat} {ιs : M (List D)} {φ : M AV} {ρ ρ0 : Env} {ds : List D} {s : Sl} (hi : ιs ρ = .ok ds ρ0) (e : ρ0[i]? = some s) (hb : isBo s = false) (f : D → D)
    (h : ∀ d ∈ ds, ∃ av, φ (ρ0.set i (.fz d)) = .ok av (ρ0.set i (.fz d)) ∧ frz av (ρ0.set i (.fz d)) = .ok (f d) (ρ0.set i (.fz d)))
    (hl : ds.length ≤ 1000000) : mComp ιs [i] (.nm i) (M.ret true) φ ρ = .ok (.ow (.lst (ds.map f))) (ρ0.set i (rsS s)) := by
  rw [← List.filterMap_eq_map]
  exact comp_run hi e hb (some ∘ f) (fun d hd => ⟨fun q => (by cases q), fun x q => (by cases q; exact ⟨rfl, h d hd⟩)⟩) hl
theorem loop_cons {t : Tg} {body : M Ctl} {d : D} {ds : List D} {ρ ρ1 ρ2 : Env} (h1 : bindT t d ρ = .ok () ρ1) (h2 : body ρ1 = .ok .nx ρ2 ∨ body ρ1 = .ok .ct ρ2) : loopF t body (d :: ds) ρ = loopF t body ds ρ2 := by
  conv => lhs; unfold loopF
  rw [bnd_ok h1]
  rcases h2 with h2 | h2 <;> simp only [h2]
theorem loop_nil {t : Tg} {body : M Ctl} {ρ : Env} : loopF t body [] ρ = .ok .nx ρ := rfl
theorem range1_run (m : Nat) (h : m ≤ 1000000) (ρ : Env) : range1 [.int (m : Int)] ρ = .ok (rangeD 0 m) ρ := by
  have h62 : (m : Int) < 2 ^ 62 := by
    have : (1000001 : Int) ≤ 2 ^ 62 := by decide
    omega
  unfold range1
  simp only [Int.toNat_natCast]
  rw [if_pos (by omega)]
  rfl
section
variable {N : Nat} {φ : M Ctl} {ks : List Sl} {d : D} {ρ' : Env} {i : Nat} {e : Exn}
theorem runB_fz (h : φ (ks ++ List.replicate (N - ks.length) .un) = .ok (.rt (.fz d)) ρ') : runB N φ ks = .ok false d (bosF ks ρ') := by unfold runB; rw [h]
theorem runB_ow (h : φ (ks ++ List.replicate (N - ks.length) .un) = .ok (.rt (.ow d)) ρ') : runB N φ ks = .ok true d (bosF ks ρ') := by unfold runB; rw [h]
theorem runB_nx (h : φ (ks ++ List.replicate (N - ks.length) .un) = .ok .nx ρ') : runB N φ ks = .ok false .non (bosF ks ρ') := by unfold runB; rw [h]
theorem runB_ex (h : φ (ks ++ List.replicate (N - ks.length) .un) = .ex e ρ') : runB N φ ks = .ex e (bosF ks ρ') := by unfold runB; rw [h]
theorem runB_sf (h : φ (ks ++ List.replicate (N - ks.length) .un) = .ok (.rt (.sl i)) ρ') (h2 : ρ'[i]? = some (.fz d)) : runB N φ ks = .ok false d (bosF ks ρ') := by unfold runB; rw [h]; simp only [h2]
theorem runB_so (h : φ (ks ++ List.replicate (N - ks.length) .un) = .ok (.rt (.sl i)) ρ') (h2 : ρ'[i]? = some (.ow d)) : runB N φ ks = .ok true d (bosF ks ρ') := by unfold runB; rw [h]; simp only [h2]
end
theorem bosF_no : ∀ (ks : List Sl) (ρ : DL.Env), (ks.all fun s => !isBo s) = true → bosF ks ρ = []
  | [], ρ, _ => by cases ρ <;> rfl
  | s :: ks, [], h => by cases s <;> rfl
  | s :: ks, t :: ρ, h => by
    rw [List.all_cons, Bool.and_eq_true] at h
    have ih := bosF_no ks ρ h.2
    cases s with
    | bo d => cases h.1
    | un => exact ih
    | fz d => exact ih
    | ow d => exact ih
end DL

/-! printed by gen.py: mirrors and derivations -/
namespace LW
open PySem PySem.Spec PyProof.Rows L2 DL
def top (i : Nat) : Stmt := PySem.Challenge.pw_twolistings_k55_whole_round_by_needs.main.body.getD i (.Pass ⟨0, 0, 0, 0⟩)
structure Hs (K : PySem.W.Frag) (mg : Str → Option Value) (X : Cx) : Prop where
  K : X.K = K
  mg : X.mg = mg
  n_abs : X.mg "abs" = none
  n_all : X.mg "all" = none
  n_int : X.mg "int" = none
  n_isinstance : X.mg "isinstance" = none
  n_len : X.mg "len" = none
  n_max : X.mg "max" = none
  n_min : X.mg "min" = none
  n_range : X.mg "range" = none
  n_sorted : X.mg "sorted" = none
  n_str : X.mg "str" = none
  c_FOLDER : GloD X "FOLDER" (.tup [(.str "folder")])
  c_MOST_NAME : GloD X "MOST_NAME" (.int 60)
  c_MOST_PARTS : GloD X "MOST_PARTS" (.int 8)
  x_BadName : XcD X "BadName"
theorem isi_str {X : Cx} : IsiOk X (.type "str") (isiB "str") := isiB_ok "str" (by decide +kernel)
theorem fitA {X : Cx} {b : Bs} {P : List (Addr × HO)} (h : Fit X b) : Fit X (b.add P) := ⟨h.K, h.mg⟩
theorem fitT {X : Cx} {b : Bs} {pn : List (Addr × Obj)} {xe : Value → Shared → Prop} (h : Fit X b) : Fit (X.tr pn xe) b := ⟨h.K, h.mg⟩
theorem fitS {X : Cx} {b : Bs} {pn : List (Addr × Obj)} {a : Addr} (h : Fit X b) : Fit (X.suite a pn) b := ⟨h.K, h.mg⟩
def s_is_string_1 : M Ctl :=
  (mRet (mAndV (mIsi (isiB "str") (mVar 0)) (mAndV (mOp opLe (mCall fLen (mCons (mVar 0) mNil)) (mVar 1)) (mCall fAll (mCons (mComp (mItems (mVar 0)) [2] (.nm 2) (M.ret true) (mChain opLe opLe (mC (.str " ")) (mVar 2) (mC (.str "~")))) mNil)))))
def φ_is_string : M Ctl :=
  s_is_string_1
def F_is_string : Fn := runB 3 φ_is_string
def s_are_parts_1 : M Ctl :=
  (mAsg 1 (mRead "str" sSplit (mVar 0) (mCons (mC (.str "/")) mNil)))
def s_are_parts_2 : M Ctl :=
  (mRet (mAndV (mOp opLe (mCall fLen (mCons (mVar 1) mNil)) (mC (.int 8))) (mAndV (mOp opNotIn (mC (.str "")) (mVar 1)) (mAndV (mOp opNotIn (mC (.str ".")) (mVar 1)) (mOp opNotIn (mC (.str "..")) (mVar 1))))))
def φ_are_parts : M Ctl :=
  (mSeq s_are_parts_1
   s_are_parts_2)
def F_are_parts : Fn := runB 2 φ_are_parts
def s_is_name_1 : M Ctl :=
  (mRet (mAndV (mCallF 2 F_is_string (mRc .fz (mVar 0) (mRc .fz (mC (.int 60)) mNil))) (mCallF 1 F_are_parts (mRc .fz (mVar 0) mNil))))
def φ_is_name : M Ctl :=
  s_is_name_1
def F_is_name : Fn := runB 1 φ_is_name
def s_parent_2 : M Ctl :=
  (mRaise "BadName")
def s_parent_1 : M Ctl :=
  (mIf (mNot (mTest (mCallF 1 F_is_name (mRc .fz (mVar 0) mNil)))) s_parent_2 (M.ret .nx))
def s_parent_3 : M Ctl :=
  (mAsg 1 (mRead "str" sSplit (mVar 0) (mCons (mC (.str "/")) mNil)))
def s_parent_4 : M Ctl :=
  (mRet (mIf (mTest (mOp opGt (mCall fLen (mCons (mVar 1) mNil)) (mC (.int 1)))) (mRead "str" sJoin (mC (.str "/")) (mCons (mSl (mVar 1) none (some (mUn unNeg (mC (.int 1))))) mNil)) (mC .non)))
def φ_parent : M Ctl :=
  (mSeq s_parent_1
   (mSeq s_parent_3
   s_parent_4))
def F_parent : Fn := runB 2 φ_parent
def s_worked_out_1 : M Ctl :=
  (mPar [3, 4] (mRc .unsl (mCallF 1 F_parent (mRc .fz (mVar 1) mNil)) (mRc .unsl (mVar 1) mNil)))
def s_worked_out_4 : M Ctl :=
  (mRet (mTup (mCons (mC (.str "needed")) (mCons (mVar 3) mNil))))
def s_worked_out_3 : M Ctl :=
  (mIf (mTest (mOp opNotIn (mVar 3) (mVar 2))) s_worked_out_4 (M.ret .nx))
def s_worked_out_5 : M Ctl :=
  (mAsgM (mOp ixD (mVar 2) (mVar 3)) (gmTup 2 (gmCons (setFz 5) (gmCons (setFz 6) gmNil))))
def s_worked_out_7 : M Ctl :=
  (mRet (mTup (mCons (mVar 5) (mCons (mC (.str "")) mNil))))
def s_worked_out_6 : M Ctl :=
  (mIf (mTest (mOp opNe (mVar 5) (mC (.str "place")))) s_worked_out_7 (M.ret .nx))
def s_worked_out_9 : M Ctl :=
  (mRet (mTup (mCons (mC (.str "missing")) (mCons (mC (.str "")) mNil))))
def s_worked_out_8 : M Ctl :=
  (mIf (mTest (mOp opNe (mOp ixD (mVar 0) (mVar 6)) (mC (.tup [(.str "folder")])))) s_worked_out_9 (M.ret .nx))
def s_worked_out_10 : M Ctl :=
  (mAsg 4 (mOp opAdd (mOp opAdd (mVar 6) (mC (.str "/"))) (mOp ixD (mRead "str" sSplit (mVar 1) (mCons (mC (.str "/")) mNil)) (mUn unNeg (mC (.int 1))))))
def s_worked_out_2 : M Ctl :=
  (mIf (mTest (mOp opIsNot (mVar 3) (mC .non))) (mSeq s_worked_out_3
   (mSeq s_worked_out_5
   (mSeq s_worked_out_6
   (mSeq s_worked_out_8
   s_worked_out_10)))) (M.ret .nx))
def s_worked_out_12 : M Ctl :=
  (mRet (mTup (mCons (mC (.str "missing")) (mCons (mC (.str "")) mNil))))
def s_worked_out_11 : M Ctl :=
  (mIf (mTest (mOp opNotIn (mVar 4) (mVar 0))) s_worked_out_12 (M.ret .nx))
def s_worked_out_14 : M Ctl :=
  (mRet (mTup (mCons (mC (.str "place")) (mCons (mVar 4) mNil))))
def s_worked_out_13 : M Ctl :=
  (mIf (mTest (mOp opNe (mOp ixD (mOp ixD (mVar 0) (mVar 4)) (mC (.int 0))) (mC (.str "link")))) s_worked_out_14 (M.ret .nx))
def s_worked_out_15 : M Ctl :=
  (mAsg 7 (mOp ixD (mOp ixD (mVar 0) (mVar 4)) (mC (.int 1))))
def s_worked_out_16 : M Ctl :=
  (mRet (mIf (mTest (mOp opIn (mVar 7) (mVar 2))) (mOp ixD (mVar 2) (mVar 7)) (mTup (mCons (mC (.str "needed")) (mCons (mVar 7) mNil)))))
def φ_worked_out : M Ctl :=
  (mSeq s_worked_out_1
   (mSeq s_worked_out_2
   (mSeq s_worked_out_11
   (mSeq s_worked_out_13
   (mSeq s_worked_out_15
   s_worked_out_16)))))
def F_worked_out : Fn := runB 8 φ_worked_out
def s_answer_2 : M Ctl :=
  (mRaise "BadName")
def s_answer_1 : M Ctl :=
  (mIf (mNot (mTest (mCallF 1 F_is_name (mRc .fz (mVar 1) mNil)))) s_answer_2 (M.ret .nx))
def s_answer_3 : M Ctl :=
  (mPar [2, 3] (mRc .unsl (mDisp [((mVar 1), (mTup (mCons (mC (.str "round")) (mCons (mC (.str "")) mNil))))]) (mRc .unsl (mLst (mCons (mVar 1) mNil)) mNil)))
def s_answer_5 : M Ctl :=
  (mAsgM (mCallF 3 F_worked_out (mRc .fz (mVar 0) (mRc .fz (mOp ixD (mVar 3) (mUn unNeg (mC (.int 1)))) (mRc .keep (mVar 2) mNil)))) (gmTup 2 (gmCons (setFz 4) (gmCons (setFz 5) gmNil))))
def s_answer_7 : M Ctl :=
  (mAsgM (mTup (mCons (mC (.str "round")) (mCons (mC (.str "")) mNil))) (gmSub (mVar 2) (mVar 5)))
def s_answer_8 : M Ctl :=
  (mExpr (mMut "list" lAppend (mVar 3) (mCons (mVar 5) mNil)))
def s_answer_10 : M Ctl :=
  (mAsgM (mTup (mCons (mVar 4) (mCons (mVar 5) mNil))) (gmSub (mVar 2) (mMut "list" lPop (mVar 3) mNil)))
def s_answer_6 : M Ctl :=
  (mIf (mTest (mOp opEq (mVar 4) (mC (.str "needed")))) (mSeq s_answer_7
   s_answer_8) s_answer_10)
def s_answer_4 : M Ctl :=
  (mWhile (mTest (mOp opNe (mVar 3) (mLst mNil))) (mSeq s_answer_5
   s_answer_6) 100000)
def s_answer_11 : M Ctl :=
  (mRet (mOp ixD (mVar 2) (mVar 1)))
def φ_answer : M Ctl :=
  (mSeq s_answer_1
   (mSeq s_answer_3
   (mSeq s_answer_4
   s_answer_11)))
def F_answer : Fn := runB 6 φ_answer
def s_law_feed_1 : M Ctl :=
  (mAsg 2 (mIf (mTest (mOp opLt (mVar 1) (mCall fLen (mCons (mVar 0) mNil)))) (mOp ixD (mVar 0) (mVar 1)) (mOp opAdd (mOp opMul (mC (.int 61)) (mVar 1)) (mC (.int 17)))))
def s_law_feed_2 : M Ctl :=
  (mAsg 3 (mCall fMax (mCons (mC (.int 0)) (mCons (mOp opSub (mCall fAbs (mCons (mVar 2) mNil)) (mOp opPow (mC (.int 10)) (mC (.int 18)))) mNil))))
def s_law_feed_3 : M Ctl :=
  (mAsg 4 (mOp opMod (mCall fInt (mCons (mOp opAdd (mOp opAdd (mOp opMul (mVar 2) (mC (.int 6364136223846793005))) (mOp opMul (mC (.int 7919)) (mVar 1))) (mC (.int 1442695040888963407))) mNil)) (mC (.int 2305843009213693951))))
def s_law_feed_4 : M Ctl :=
  (mRet (mLst (mCons (mVar 3) (mCons (mVar 4) mNil))))
def φ_law_feed : M Ctl :=
  (mSeq s_law_feed_1
   (mSeq s_law_feed_2
   (mSeq s_law_feed_3
   s_law_feed_4)))
def F_law_feed : Fn := runB 5 φ_law_feed
def s_law_take_2 : M Ctl :=
  (mAsg 2 (mOp opMod (mCall fInt (mCons (mOp ixD (mVar 0) (mC (.int 0))) mNil)) (mVar 1)))
def s_law_take_3 : M Ctl :=
  (mAsgM (mOp opDiv (mOp ixD (mVar 0) (mC (.int 0))) (mVar 1)) (gmSub (mVar 0) (mC (.int 0))))
def s_law_take_4 : M Ctl :=
  (mRet (mVar 2))
def s_law_take_1 : M Ctl :=
  (mIf (mTest (mOp opGt (mOp ixD (mVar 0) (mC (.int 0))) (mC (.int 0)))) (mSeq s_law_take_2
   (mSeq s_law_take_3
   s_law_take_4)) (M.ret .nx))
def s_law_take_5 : M Ctl :=
  (mAsgM (mOp opMod (mCall fInt (mCons (mOp opAdd (mOp opMul (mOp ixD (mVar 0) (mC (.int 1))) (mC (.int 6364136223846793005))) (mC (.int 1442695040888963407))) mNil)) (mC (.int 2305843009213693951))) (gmSub (mVar 0) (mC (.int 1))))
def s_law_take_6 : M Ctl :=
  (mRet (mOp opMod (mCall fInt (mCons (mOp opDiv (mOp ixD (mVar 0) (mC (.int 1))) (mC (.int 65536))) mNil)) (mVar 1)))
def φ_law_take : M Ctl :=
  (mSeq s_law_take_1
   (mSeq s_law_take_5
   s_law_take_6))
def F_law_take : Fn := runB 3 φ_law_take
def s_law_pick_1 : M Ctl :=
  (mRet (mOp ixD (mVar 1) (mCallF 2 F_law_take (mRc .keep (mVar 0) (mRc .fz (mCall fLen (mCons (mVar 1) mNil)) mNil)))))
def φ_law_pick : M Ctl :=
  s_law_pick_1
def F_law_pick : Fn := runB 2 φ_law_pick
def s_law_tree_1 : M Ctl :=
  (mAsg 1 (mLst (mCons (mC (.str "a")) (mCons (mC (.str "a/b")) (mCons (mC (.str "a/b/c")) (mCons (mC (.str "a/d")) (mCons (mC (.str "b")) (mCons (mC (.str "b.d")) (mCons (mC (.str "b.d/a")) (mCons (mC (.str "b/a")) (mCons (mC (.str "b/c")) (mCons (mC (.str "c")) (mCons (mC (.str "c/d")) (mCons (mC (.str "c/d/e")) (mCons (mC (.str "d")) mNil)))))))))))))))
def s_law_tree_2 : M Ctl :=
  (mAsg 2 (M.ret (.ow (.dct []))))
def s_law_tree_4 : M Ctl :=
  (mAsg 4 (mCallF 2 F_law_take (mRc .keep (mVar 0) (mRc .fz (mC (.int 8)) mNil))))
def s_law_tree_6 : M Ctl :=
  (mAsgM (mTup (mCons (mC (.str "folder")) mNil)) (gmSub (mVar 2) (mVar 3)))
def s_law_tree_8 : M Ctl :=
  (mAsgM (mTup (mCons (mC (.str "file")) (mCons (mCallF 2 F_law_pick (mRc .keep (mVar 0) (mRc .fz (mLst (mCons (mC (.str "")) (mCons (mC (.str "x")) (mCons (mC (.str "yy")) mNil)))) mNil))) mNil))) (gmSub (mVar 2) (mVar 3)))
def s_law_tree_10 : M Ctl :=
  (mAsgM (mTup (mCons (mC (.str "link")) (mCons (mCallF 2 F_law_pick (mRc .keep (mVar 0) (mRc .fz (mOp opAdd (mVar 1) (mLst (mCons (mC (.str "a/b/c/d")) (mCons (mC (.str "e")) (mCons (mC (.str "a/a")) mNil))))) mNil))) mNil))) (gmSub (mVar 2) (mVar 3)))
def s_law_tree_9 : M Ctl :=
  (mIf (mTest (mOp opLt (mVar 4) (mC (.int 6)))) s_law_tree_10 (M.ret .nx))
def s_law_tree_7 : M Ctl :=
  (mIf (mTest (mOp opEq (mVar 4) (mC (.int 3)))) s_law_tree_8 s_law_tree_9)
def s_law_tree_5 : M Ctl :=
  (mIf (mTest (mOp opLt (mVar 4) (mC (.int 3)))) s_law_tree_6 s_law_tree_7)
def s_law_tree_3 : M Ctl :=
  (mFor (mItems (mVar 1)) (.nm 3) (mSeq s_law_tree_4
   s_law_tree_5))
def s_law_tree_11 : M Ctl :=
  (mRet (mVar 2))
def φ_law_tree : M Ctl :=
  (mSeq s_law_tree_1
   (mSeq s_law_tree_2
   (mSeq s_law_tree_3
   s_law_tree_11)))
def F_law_tree : Fn := runB 5 φ_law_tree
def s_law_needs_1 : M Ctl :=
  (mPar [2, 3, 4] (mRc .unsl (mRead "str" sSplit (mVar 1) (mCons (mC (.str "/")) mNil)) (mRc .unsl (mVar 1) (mRc .unsl (mLst mNil) mNil))))
def s_law_needs_3 : M Ctl :=
  (mAsg 5 (mRead "str" sJoin (mC (.str "/")) (mCons (mSl (mVar 2) none (some (mUn unNeg (mC (.int 1))))) mNil)))
def s_law_needs_4 : M Ctl :=
  (mExpr (mMut "list" lAppend (mVar 4) (mCons (mVar 5) mNil)))
def s_law_needs_5 : M Ctl :=
  (mAsgM (mCallF 2 F_answer (mRc .fz (mVar 0) (mRc .fz (mVar 5) mNil))) (gmTup 2 (gmCons (setFz 6) (gmCons (setFz 7) gmNil))))
def s_law_needs_7 : M Ctl :=
  (mRet (mVar 4))
def s_law_needs_6 : M Ctl :=
  (mIf (mOr (mTest (mOp opNe (mVar 6) (mC (.str "place")))) (mTest (mOp opNe (mOp ixD (mVar 0) (mVar 7)) (mTup (mCons (mC (.str "folder")) mNil))))) s_law_needs_7 (M.ret .nx))
def s_law_needs_8 : M Ctl :=
  (mAsg 3 (mOp opAdd (mOp opAdd (mVar 7) (mC (.str "/"))) (mOp ixD (mVar 2) (mUn unNeg (mC (.int 1))))))
def s_law_needs_2 : M Ctl :=
  (mIf (mTest (mOp opGt (mCall fLen (mCons (mVar 2) mNil)) (mC (.int 1)))) (mSeq s_law_needs_3
   (mSeq s_law_needs_4
   (mSeq s_law_needs_5
   (mSeq s_law_needs_6
   s_law_needs_8)))) (M.ret .nx))
def s_law_needs_10 : M Ctl :=
  (mExpr (mMut "list" lAppend (mVar 4) (mCons (mOp ixD (mOp ixD (mVar 0) (mVar 3)) (mC (.int 1))) mNil)))
def s_law_needs_9 : M Ctl :=
  (mIf (mAnd (mTest (mOp opIn (mVar 3) (mVar 0))) (mTest (mOp opEq (mOp ixD (mOp ixD (mVar 0) (mVar 3)) (mC (.int 0))) (mC (.str "link"))))) s_law_needs_10 (M.ret .nx))
def s_law_needs_11 : M Ctl :=
  (mRet (mVar 4))
def φ_law_needs : M Ctl :=
  (mSeq s_law_needs_1
   (mSeq s_law_needs_2
   (mSeq s_law_needs_9
   s_law_needs_11)))
def F_law_needs : Fn := runB 8 φ_law_needs
def s_law_is_round_1 : M Ctl :=
  (mPar [2, 3] (mRc .unsl (M.ret (.ow (.dct []))) (mRc .unsl (mLst (mCons (mVar 1) mNil)) mNil)))
def s_law_is_round_4 : M Ctl :=
  (mAsg 5 (mMut "list" lPop (mVar 3) mNil))
def s_law_is_round_6 : M Ctl :=
  (mAsgM (mCallF 2 F_law_needs (mRc .fz (mVar 0) (mRc .fz (mVar 5) mNil))) (gmSub (mVar 2) (mVar 5)))
def s_law_is_round_7 : M Ctl :=
  (mAsg 3 (mOp opAdd (mVar 3) (mOp ixD (mVar 2) (mVar 5))))
def s_law_is_round_5 : M Ctl :=
  (mIf (mTest (mOp opNotIn (mVar 5) (mVar 2))) (mSeq s_law_is_round_6
   s_law_is_round_7) (M.ret .nx))
def s_law_is_round_3 : M Ctl :=
  (mIf (mTest (mOp opNe (mVar 3) (mLst mNil))) (mSeq s_law_is_round_4
   s_law_is_round_5) (M.ret .nx))
def s_law_is_round_2 : M Ctl :=
  (mFor (mIt range1 (mCons (mC (.int 400)) mNil)) (.nm 4) s_law_is_round_3)
def s_law_is_round_9 : M Ctl :=
  (mAsg 6 (mComp (mItems (mCall fSorted (mCons (mVar 2) mNil))) [7] (.nm 7) (mTest (mOp opEq (mComp (mItems (mOp ixD (mVar 2) (mVar 7))) [8] (.nm 8) (mTest (mOp opIn (mVar 8) (mVar 2))) (mVar 8)) (mLst mNil))) (mVar 7)))
def s_law_is_round_11 : M Ctl :=
  (mExpr (mMut "dict" dPop (mVar 2) (mCons (mVar 7) mNil)))
def s_law_is_round_10 : M Ctl :=
  (mFor (mItems (mVar 6)) (.nm 7) s_law_is_round_11)
def s_law_is_round_8 : M Ctl :=
  (mFor (mIt range1 (mCons (mCall fLen (mCons (mVar 2) mNil)) mNil)) (.nm 4) (mSeq s_law_is_round_9
   s_law_is_round_10))
def s_law_is_round_12 : M Ctl :=
  (mRet (mOp opIn (mVar 1) (mVar 2)))
def φ_law_is_round : M Ctl :=
  (mSeq s_law_is_round_1
   (mSeq s_law_is_round_2
   (mSeq s_law_is_round_8
   s_law_is_round_12)))
def F_law_is_round : Fn := runB 9 φ_law_is_round
def s_law_2 : M Ctl :=
  (mAsg 2 (mCallF 2 F_law_feed (mRc .fz (mVar 0) (mRc .fz (mVar 1) mNil))))
def s_law_3 : M Ctl :=
  (mAsg 3 (mCallF 1 F_law_tree (mRc .keep (mVar 2) mNil)))
def s_law_5 : M Ctl :=
  (mAsgM (mCallF 2 F_answer (mRc .fz (mVar 3) (mRc .fz (mVar 4) mNil))) (gmTup 2 (gmCons (setFz 5) (gmCons (setFz 6) gmNil))))
def s_law_7 : M Ctl :=
  (mRet (mC (.bl false)))
def s_law_6 : M Ctl :=
  (mIf (mOr (mTest (mOp opNe (mOp opEq (mVar 5) (mC (.str "round"))) (mCallF 2 F_law_is_round (mRc .fz (mVar 3) (mRc .fz (mVar 4) mNil))))) (mTest (mOp opNe (mCallF 2 F_answer (mRc .fz (mVar 3) (mRc .fz (mVar 4) mNil))) (mTup (mCons (mVar 5) (mCons (mVar 6) mNil)))))) s_law_7 (M.ret .nx))
def s_law_9 : M Ctl :=
  (mRet (mC (.bl false)))
def s_law_8 : M Ctl :=
  (mIf (mAnd (mTest (mOp opEq (mVar 5) (mC (.str "place")))) (mOr (mTest (mOp opNotIn (mVar 6) (mVar 3))) (mTest (mOp opEq (mOp ixD (mOp ixD (mVar 3) (mVar 6)) (mC (.int 0))) (mC (.str "link")))))) s_law_9 (M.ret .nx))
def s_law_11 : M Ctl :=
  (mRet (mC (.bl false)))
def s_law_10 : M Ctl :=
  (mIf (mAnd (mTest (mOp opNe (mVar 5) (mC (.str "place")))) (mOr (mTest (mOp opNe (mVar 6) (mC (.str "")))) (mTest (mOp opNotIn (mVar 5) (mTup (mCons (mC (.str "round")) (mCons (mC (.str "missing")) mNil))))))) s_law_11 (M.ret .nx))
def s_law_12 : M Ctl :=
  (mAsg 7 (mComp (mIt range2 (mCons (mC (.int 1)) (mCons (mCall fLen (mCons (mRead "str" sSplit (mVar 4) (mCons (mC (.str "/")) mNil)) mNil)) mNil))) [9] (.nm 9) (M.ret true) (mRead "str" sJoin (mC (.str "/")) (mCons (mSl (mRead "str" sSplit (mVar 4) (mCons (mC (.str "/")) mNil)) none (some (mVar 9))) mNil))))
def s_law_13 : M Ctl :=
  (mAsg 8 (mOp opEq (mComp (mItems (mVar 7)) [10] (.nm 10) (mTest (mOp opNe (mRead "dict" dGet (mVar 3) (mCons (mVar 10) mNil)) (mTup (mCons (mC (.str "folder")) mNil)))) (mVar 10)) (mLst mNil)))
def s_law_15 : M Ctl :=
  (mRet (mC (.bl false)))
def s_law_14 : M Ctl :=
  (mIf (mAnd (mTest (mVar 8)) (mAnd (mTest (mOp opIn (mVar 4) (mVar 3))) (mAnd (mTest (mOp opNe (mOp ixD (mOp ixD (mVar 3) (mVar 4)) (mC (.int 0))) (mC (.str "link")))) (mTest (mOp opNe (mTup (mCons (mVar 5) (mCons (mVar 6) mNil))) (mTup (mCons (mC (.str "place")) (mCons (mVar 4) mNil)))))))) s_law_15 (M.ret .nx))
def s_law_4 : M Ctl :=
  (mFor (mItems (mOp opAdd (mCall fSorted (mCons (mVar 3) mNil)) (mLst (mCons (mC (.str "a/b/c/d")) (mCons (mC (.str "b/a/b/c")) (mCons (mC (.str "e")) mNil)))))) (.nm 4) (mSeq s_law_5
   (mSeq s_law_6
   (mSeq s_law_8
   (mSeq s_law_10
   (mSeq s_law_12
   (mSeq s_law_13
   s_law_14)))))))
def s_law_1 : M Ctl :=
  (mFor (mIt range1 (mCons (mCall fMax (mCons (mC (.int 1)) (mCons (mCall fMin (mCons (mC (.int 3)) (mCons (mCall fLen (mCons (mVar 0) mNil)) mNil))) mNil))) mNil)) (.nm 1) (mSeq s_law_2
   (mSeq s_law_3
   s_law_4)))
def s_law_16 : M Ctl :=
  (mRet (mC (.bl true)))
def φ_law : M Ctl :=
  (mSeq s_law_1
   s_law_16)
def F_law : Fn := runB 11 φ_law
end LW

namespace LW
open PySem DL
/-! ### the answer of a path, as a relation -/
abbrev Tab := List (D × D)
def tx (w p : Str) : D := .tup [.str w, .str p]
abbrev fold : D := .tup [.str "folder"]
inductive Out where
  | need (q : Str) | done (w pl : Str)
def Out.d : Out → D
  | .need q => tx "needed" q
  | .done w pl => tx w pl
/-- what is known of a path's text -/
structure Par (p : Str) (o : Option Str) : Prop where
  up : F_parent [.fz (.str p)] = .ok false (match o with | some a => .str a | none => .non) []
/-- its last part -/
structure Last (p l : Str) : Prop where
  sp : ∃ r, Txt.split p "/" = r ++ [l]
  ln : p.length + 2 ≤ 1000
inductive Fin (tab K : Tab) (h : Str) : Out → Prop
  | no : getK tab (.inr h) = none → Fin tab K h (.done "missing" "")
  | pl {k : Str} {r : List D} : getK tab (.inr h) = some (.tup (.str k :: r)) → k ≠ "link" → Fin tab K h (.done "place" h)
  | lk0 {t : Str} : getK tab (.inr h) = some (.tup [.str "link", .str t]) → getK K (.inr t) = none → Fin tab K h (.need t)
  | lk1 {t w pl : Str} : getK tab (.inr h) = some (.tup [.str "link", .str t]) → getK K (.inr t) = some (tx w pl) → Fin tab K h (.done w pl)
inductive Wo (tab K : Tab) (p : Str) : Out → Prop
  | up {a : Str} : Par p (some a) → getK K (.inr a) = none → Wo tab K p (.need a)
  | upw {a w pl : Str} : Par p (some a) → getK K (.inr a) = some (tx w pl) → w ≠ "place" → Wo tab K p (.done w "")
  | upm {a pl : Str} {v : D} : Par p (some a) → getK K (.inr a) = some (tx "place" pl) → getK tab (.inr pl) = some v → eqD v 40 fold = some false → Wo tab K p (.done "missing" "")
  | top {o : Out} : Par p none → Fin tab K p o → Wo tab K p o
  | sub {a pl l : Str} {o : Out} : Par p (some a) → getK K (.inr a) = some (tx "place" pl) → getK tab (.inr pl) = some fold → Last p l → pl.length ≤ 1000 → l.length ≤ 1000 → Fin tab K (pl ++ "/" ++ l) o → Wo tab K p o
theorem sl2 : (2 : Nat) ≤ sizeLine := sl_line 2 (by omega)
theorem wo_up {tab K : Tab} {p a : Str} (hp : Par p (some a)) (hk : getK K (.inr a) = none) : F_worked_out [.fz (.dct tab), .fz (.str p), .bo (.dct K)] = .ok false (tx "needed" a) [.dct K] := by
  simp [F_worked_out, φ_worked_out, runB, s_worked_out_1, s_worked_out_2, s_worked_out_3, s_worked_out_4, hp.up, hk, sl2, bosF, tx]
theorem wo_upw {tab K : Tab} {p a w pl : Str} (hp : Par p (some a)) (hk : getK K (.inr a) = some (tx w pl)) (hw : w ≠ "place") : F_worked_out [.fz (.dct tab), .fz (.str p), .bo (.dct K)] = .ok false (tx w "") [.dct K] := by
  simp [F_worked_out, φ_worked_out, runB, s_worked_out_1, s_worked_out_2, s_worked_out_3, s_worked_out_4, s_worked_out_5, s_worked_out_6, s_worked_out_7, hp.up, hk, sl2, bosF, tx, hw]
theorem wo_upm {tab K : Tab} {p a pl : Str} {v : D} (hp : Par p (some a)) (hk : getK K (.inr a) = some (tx "place" pl)) (ht : getK tab (.inr pl) = some v) (hv : eqD v 40 fold = some false) :
    F_worked_out [.fz (.dct tab), .fz (.str p), .bo (.dct K)] = .ok false (tx "missing" "") [.dct K] := by
  simp [F_worked_out, φ_worked_out, runB, s_worked_out_1, s_worked_out_2, s_worked_out_3, s_worked_out_4, s_worked_out_5, s_worked_out_6, s_worked_out_7, s_worked_out_8, s_worked_out_9, hp.up, hk, sl2, bosF, tx, ht, opNe, hv]
theorem eq_fold : eqD fold 40 fold = some true := by
  simp [fold, eqD, eqL, fl, L2.eqV]
@[simp] theorem ix_t0 (a : D) (r : List D) : ixD (.tup (a :: r)) (.int 0) = some (.fz a) := by
  show ((L2.atI (a :: r) 0).map AV.fz) = _
  have : L2.atI (a :: r) 0 = some a := L2.atI_nat (j := 0) rfl
  rw [this]; rfl
@[simp] theorem ix_t1 (a c : D) (r : List D) : ixD (.tup (a :: c :: r)) (.int 1) = some (.fz c) := by
  show ((L2.atI (a :: c :: r) 1).map AV.fz) = _
  have : L2.atI (a :: c :: r) 1 = some c := L2.atI_nat (j := 1) rfl
  rw [this]; rfl
/-- what is behind the place is found out -/
theorem fin_run {tab K : Tab} {h : Str} {o : Out} (f : Fin tab K h o) {x1 x3 x5 x6 x7 : Sl} (h7 : isBo x7 = false) : ∃ y7, (mSeq s_worked_out_11 (mSeq s_worked_out_13 (mSeq s_worked_out_15 s_worked_out_16))) [.fz (.dct tab), x1, .bo (.dct K), x3, .fz (.str h), x5, x6, x7] = .ok (.rt (.fz o.d)) [.fz (.dct tab), x1, .bo (.dct K), x3, .fz (.str h), x5, x6, y7] := by
  cases f with
  | no e => exact ⟨x7, by simp [s_worked_out_11, s_worked_out_12, e, sl2, Out.d, tx]⟩
  | pl e hk => exact ⟨x7, by simp [s_worked_out_11, s_worked_out_12, s_worked_out_13, s_worked_out_14, e, sl2, Out.d, tx, hk]⟩
  | @lk0 t e hk => exact ⟨.fz (.str t), by simp [s_worked_out_11, s_worked_out_12, s_worked_out_13, s_worked_out_14, s_worked_out_15, s_worked_out_16, e, sl2, Out.d, tx, hk, h7]⟩
  | @lk1 t w pl e hk => exact ⟨.fz (.str t), by simp [s_worked_out_11, s_worked_out_12, s_worked_out_13, s_worked_out_14, s_worked_out_15, s_worked_out_16, e, sl2, Out.d, tx, hk, h7]⟩
theorem str_len_append (a c : Str) : (a ++ c).length = a.length + c.length := PySem.strLen_append a c
theorem sl1000 (n : Nat) (h : n ≤ 5000) : n ≤ sizeLine := sl_line n (by omega)
theorem split_run {p l : Str} (h : Last p l) : ∃ r : List Str, sSplit (.str p) [.str "/"] = some (.ow (.lst (r.map .str ++ [.str l]))) := by
  obtain ⟨r, e⟩ := h.sp
  refine ⟨r, ?_⟩
  have h1 : ((Str.ofString "/").length == 0) = false := by decide
  have h2 := sl1000 _ (Nat.le_trans h.ln (by omega) : p.length + 2 ≤ 5000)
  show (if ((Str.ofString "/").length == 0) = false ∧ p.length + 2 ≤ sizeLine then some (AV.ow (.lst ((Txt.split p "/").map .str))) else none) = _
  rw [if_pos ⟨h1, h2⟩, e]
  simp
theorem wo_run {tab K : Tab} {p : Str} {o : Out} (h : Wo tab K p o) : F_worked_out [.fz (.dct tab), .fz (.str p), .bo (.dct K)] = .ok false o.d [.dct K] := by
  cases h with
  | up hp hk => exact wo_up hp hk
  | upw hp hk hw => exact wo_upw hp hk hw
  | upm hp hk ht hv => exact wo_upm hp hk ht hv
  | top hp f =>
    obtain ⟨y, e⟩ := fin_run f (x1 := .fz (.str p)) (x3 := .fz .non) (x5 := .un) (x6 := .un) (x7 := .un) rfl
    have h36 : s_worked_out_1 [.fz (.dct tab), .fz (.str p), .bo (.dct K), .un, .un, .un, .un, .un] = .ok .nx [.fz (.dct tab), .fz (.str p), .bo (.dct K), .fz .non, .fz (.str p), .un, .un, .un] := by
      simp [s_worked_out_1, hp.up]
    have h37 : s_worked_out_2 [.fz (.dct tab), .fz (.str p), .bo (.dct K), .fz .non, .fz (.str p), .un, .un, .un] = .ok .nx [.fz (.dct tab), .fz (.str p), .bo (.dct K), .fz .non, .fz (.str p), .un, .un, .un] := by
      simp [s_worked_out_2]
    have : φ_worked_out [.fz (.dct tab), .fz (.str p), .bo (.dct K), .un, .un, .un, .un, .un] = _ := (seq_nx h36).trans ((seq_nx h37).trans e)
    simp [F_worked_out, runB, this, bosF]
  | @sub a pl l o hp hk ht hl z1 z2 f =>
    obtain ⟨y, e⟩ := fin_run f (x1 := .fz (.str p)) (x3 := .fz (.str a)) (x5 := .fz (.str "place")) (x6 := .fz (.str pl)) (x7 := .un) rfl
    obtain ⟨r, es⟩ := split_run hl
    have z3 : (pl ++ "/" : Str).length ≤ 1001 := by rw [str_len_append]; have : (Str.ofString "/").length = 1 := rfl; omega
    have z4 : pl.length + (Str.ofString "/").length ≤ sizeLine := sl1000 _ (by have : (Str.ofString "/").length = 1 := rfl; omega)
    have z5 : (pl ++ "/" : Str).length + l.length ≤ sizeLine := sl1000 _ (by omega)
    have h36 : s_worked_out_1 [.fz (.dct tab), .fz (.str p), .bo (.dct K), .un, .un, .un, .un, .un] = .ok .nx [.fz (.dct tab), .fz (.str p), .bo (.dct K), .fz (.str a), .fz (.str p), .un, .un, .un] := by
      simp [s_worked_out_1, hp.up]
    have h38 : s_worked_out_3 [.fz (.dct tab), .fz (.str p), .bo (.dct K), .fz (.str a), .fz (.str p), .un, .un, .un] = .ok .nx [.fz (.dct tab), .fz (.str p), .bo (.dct K), .fz (.str a), .fz (.str p), .un, .un, .un] := by
      simp [s_worked_out_3, hk]
    have h40 : s_worked_out_5 [.fz (.dct tab), .fz (.str p), .bo (.dct K), .fz (.str a), .fz (.str p), .un, .un, .un] = .ok .nx [.fz (.dct tab), .fz (.str p), .bo (.dct K), .fz (.str a), .fz (.str p), .fz (.str "place"), .fz (.str pl), .un] := by
      simp [s_worked_out_5, hk, tx]
    have h41 : s_worked_out_6 [.fz (.dct tab), .fz (.str p), .bo (.dct K), .fz (.str a), .fz (.str p), .fz (.str "place"), .fz (.str pl), .un] = .ok .nx [.fz (.dct tab), .fz (.str p), .bo (.dct K), .fz (.str a), .fz (.str p), .fz (.str "place"), .fz (.str pl), .un] := by
      simp [s_worked_out_6]
    have h43 : s_worked_out_8 [.fz (.dct tab), .fz (.str p), .bo (.dct K), .fz (.str a), .fz (.str p), .fz (.str "place"), .fz (.str pl), .un] = .ok .nx [.fz (.dct tab), .fz (.str p), .bo (.dct K), .fz (.str a), .fz (.str p), .fz (.str "place"), .fz (.str pl), .un] := by
      simp [s_worked_out_8, ht, opNe, eq_fold]
    have h45 : s_worked_out_10 [.fz (.dct tab), .fz (.str p), .bo (.dct K), .fz (.str a), .fz (.str p), .fz (.str "place"), .fz (.str pl), .un] = .ok .nx [.fz (.dct tab), .fz (.str p), .bo (.dct K), .fz (.str a), .fz (.str (pl ++ "/" ++ l)), .fz (.str "place"), .fz (.str pl), .un] := by
      simp [s_worked_out_10, es, z4, z5]
    have h37 : s_worked_out_2 [.fz (.dct tab), .fz (.str p), .bo (.dct K), .fz (.str a), .fz (.str p), .un, .un, .un] = .ok .nx [.fz (.dct tab), .fz (.str p), .bo (.dct K), .fz (.str a), .fz (.str (pl ++ "/" ++ l)), .fz (.str "place"), .fz (.str pl), .un] := by
      unfold s_worked_out_2
      rw [if_t (ρ' := [.fz (.dct tab), .fz (.str p), .bo (.dct K), .fz (.str a), .fz (.str p), .un, .un, .un]) (by simp)]
      exact (seq_nx h38).trans ((seq_nx h40).trans ((seq_nx h41).trans ((seq_nx h43).trans h45)))
    have : φ_worked_out [.fz (.dct tab), .fz (.str p), .bo (.dct K), .un, .un, .un, .un, .un] = _ := (seq_nx h36).trans ((seq_nx h37).trans e)
    simp [F_worked_out, runB, this, bosF]
/-! ### the loop -/
inductive Ev (tab : Tab) : Nat → Tab → Str → Str → Str → Tab → Prop
  | stop {K : Tab} {p w pl : Str} : Wo tab K p (.done w pl) → w ≠ "needed" → K.length ≤ 1000000 → Ev tab 1 K p w pl (putD K (.str p) (tx w pl))
  | need {K K1 K2 : Tab} {p q w1 pl1 w pl : Str} {n m : Nat} : Wo tab K p (.need q) → K.length ≤ 1000000 → Ev tab n (putD K (.str q) (tx "round" "")) q w1 pl1 K1 → Ev tab m K1 p w pl K2 → Ev tab (n + m + 1) K p w pl K2
def nBo (s : Sl) : Prop := isBo s = false
def env (tab : Tab) (p0 : Str) (K : Tab) (W : List D) (x y : Sl) : DL.Env := [.fz (.dct tab), .fz (.str p0), .ow (.dct K), .ow (.lst W), x, y]
abbrev wT : M Bool := mTest (mOp opNe (mVar 3) (mLst mNil))
abbrev wB : M Ctl := mSeq s_answer_5 s_answer_6
theorem test_t {tab K : Tab} {p0 : Str} {W : List D} {x y : Sl} (h : W ≠ []) : wT (env tab p0 K W x y) = .ok true (env tab p0 K W x y) := by
  cases W with
  | nil => exact absurd rfl h
  | cons a r => simp [wT, env]
theorem body_28 {tab K : Tab} {p0 p : Str} {W : List D} {x y : Sl} {o : Out} (hx : nBo x) (hy : nBo y) (h : Wo tab K p o) : s_answer_5 (env tab p0 K (W ++ [.str p]) x y) = .ok .nx (env tab p0 K (W ++ [.str p]) (.fz (.str (match o with | .need _ => "needed" | .done w _ => w))) (.fz (.str (match o with | .need q => q | .done _ pl => pl)))) := by
  have := wo_run h
  cases o <;> simp [s_answer_5, env, this, Out.d, tx, hx, hy, nBo] <;> simp_all [nBo]
theorem body_need {tab K : Tab} {p0 p q : Str} {W : List D} {x y : Sl} (hx : nBo x) (hy : nBo y) (h : Wo tab K p (.need q)) (hK : K.length ≤ 1000000) (hW : W.length ≤ 1000000) : wB (env tab p0 K (W ++ [.str p]) x y) = .ok .nx (env tab p0 (putD K (.str q) (tx "round" "")) (W ++ [.str p] ++ [.str q]) (.fz (.str "needed")) (.fz (.str q))) := by
  refine (seq_nx (body_28 hx hy h)).trans ?_
  have e1 : K.length < sizeLine := by have := sl_line 1000001 (by omega); omega
  have e2 : W.length + 1 < sizeLine := by have := sl_line 1000002 (by omega); omega
  simp [s_answer_6, s_answer_7, s_answer_8, env, sl2, e1, e2, tx]
theorem body_done {tab K : Tab} {p0 p w pl : Str} {W : List D} {x y : Sl} (hx : nBo x) (hy : nBo y) (h : Wo tab K p (.done w pl)) (hw : w ≠ "needed") (hK : K.length ≤ 1000000) : wB (env tab p0 K (W ++ [.str p]) x y) = .ok .nx (env tab p0 (putD K (.str p) (tx w pl)) W (.fz (.str w)) (.fz (.str pl))) := by
  refine (seq_nx (body_28 hx hy h)).trans ?_
  have e1 : K.length < sizeLine := by have := sl_line 1000001 (by omega); omega
  simp [s_answer_6, s_answer_10, env, sl2, e1, tx, hw]
theorem loop_run {tab : Tab} {p0 : Str} {n : Nat} {K K' : Tab} {p w pl : Str} (h : Ev tab n K p w pl K') : ∀ (N : Nat) (W : List D) (x y : Sl), W.length + n ≤ 900000 → nBo x → nBo y → ∃ x' y', nBo x' ∧ nBo y' ∧ mWhile wT wB (N + n) (env tab p0 K (W ++ [.str p]) x y) = mWhile wT wB N (env tab p0 K' W x' y') := by
  induction h with
  | @stop K p w pl h hw hK =>
    intro N W x y hl hx hy
    exact ⟨.fz (.str w), .fz (.str pl), rfl, rfl, while_t (test_t (by simp)) (body_done hx hy h hw hK)⟩
  | @need K K1 K2 p q w1 pl1 w pl n m h hK _ _ ih1 ih2 =>
    intro N W x y hl hx hy
    obtain ⟨x1, y1, hx1, hy1, e1⟩ := ih1 (N + m) (W ++ [.str p]) (.fz (.str "needed")) (.fz (.str q)) (by simp; omega) rfl rfl
    obtain ⟨x2, y2, hx2, hy2, e2⟩ := ih2 N W x1 y1 (by omega) hx1 hy1
    refine ⟨x2, y2, hx2, hy2, ?_⟩
    rw [← e2, ← e1]
    have e : N + (n + m + 1) = (N + m + n) + 1 := by omega
    rw [e]
    exact while_t (test_t (by simp)) (body_need hx hy h hK (by omega))
/-- what a run leaves -/
structure Evs (K : Tab) (n : Nat) (p w pl : Str) (K' : Tab) : Prop where
  cnt : n + 2 * K.length = 2 * K'.length + 1
  le : K.length ≤ K'.length
  val : getK K' (.inr p) = some (tx w pl)
  keep : ∀ x : Str, x ≠ p → (getK K (.inr x)).isSome → getK K' (.inr x) = getK K (.inr x)
  has : ∀ x : Str, (getK K (.inr x)).isSome → (getK K' (.inr x)).isSome
  nn : w ≠ "needed"
theorem wo_new {tab K : Tab} {p q : Str} (h : Wo tab K p (.need q)) : getK K (.inr q) = none := by
  have fn : ∀ {hh : Str}, Fin tab K hh (.need q) → getK K (.inr q) = none := fun f => by
    cases f with
    | lk0 _ h => exact h
  cases h with
  | up _ h => exact h
  | top _ f => exact fn f
  | sub _ _ _ _ _ _ f => exact fn f
theorem ev_s {tab : Tab} {n : Nat} {K K' : Tab} {p w pl : Str} (h : Ev tab n K p w pl K') : (getK K (.inr p)).isSome → Evs K n p w pl K' := by
  induction h with
  | @stop K p w pl h hw hK =>
    intro hp
    have hl : (putD K (.str p) (tx w pl)).length = K.length := by rw [len_put (kk := .inr p) rfl, if_pos hp]
    refine ⟨by rw [hl]; omega, by rw [hl]; exact Nat.le_refl _, by simp, fun x hx _ => by simp [Ne.symm hx], fun x hx => ?_, hw⟩
    by_cases e : p = x
    · subst e; simp
    · simp [e, hx]
  | @need K K1 K2 p q w1 pl1 w pl n m h hK _ _ ih1 ih2 =>
    intro hp
    have hq := wo_new h
    have e1 := ih1 (by simp)
    have hqp : q ≠ p := fun e => by subst e; rw [hq] at hp; cases hp
    have hl : (putD K (.str q) (tx "round" "")).length = K.length + 1 := by rw [len_put (kk := .inr q) rfl, if_neg (by rw [hq]; exact Bool.false_ne_true)]
    have has1 : ∀ x : Str, (getK K (.inr x)).isSome → (getK K1 (.inr x)).isSome := fun x hx => e1.has x (by
      by_cases e : q = x
      · subst e; simp
      · simp [e, hx])
    have e2 := ih2 (has1 p hp)
    have keep1 : ∀ x : Str, (getK K (.inr x)).isSome → getK K1 (.inr x) = getK K (.inr x) := fun x hx => by
      have hxq : x ≠ q := fun e => by subst e; rw [hq] at hx; cases hx
      rw [e1.keep x hxq (by simp [Ne.symm hxq, hx])]
      simp [Ne.symm hxq]
    refine ⟨?_, ?_, e2.val, fun x hx hs => ?_, fun x hx => e2.has x (has1 x hx), e2.nn⟩
    · have c1 := e1.cnt; have c2 := e2.cnt
      rw [hl] at c1
      omega
    · have l1 := e1.le; have l2 := e2.le
      rw [hl] at l1; omega
    · rw [e2.keep x hx (has1 x hs), keep1 x hs]
def k0 (p : Str) : Tab := [(.str p, tx "round" "")]
/-- answer(table, path) -/
theorem answer_run {tab K' : Tab} {p w pl : Str} {n : Nat} (hn : F_is_name [.fz (.str p)] = .ok false (.bl true) []) (h : Ev tab n (k0 p) p w pl K') (hb : K'.length ≤ 40000) : F_answer [.fz (.dct tab), .fz (.str p)] = .ok false (tx w pl) [] := by
  have es := ev_s h (by simp [k0, getK])
  have hcnt : n ≤ 99999 := by have := es.cnt; simp [k0] at this; omega
  have h24 : s_answer_1 [.fz (.dct tab), .fz (.str p), .un, .un, .un, .un] = .ok .nx [.fz (.dct tab), .fz (.str p), .un, .un, .un, .un] := by
    simp [s_answer_1, hn]
  have h26 : s_answer_3 [.fz (.dct tab), .fz (.str p), .un, .un, .un, .un] = .ok .nx (env tab p (k0 p) [.str p] .un .un) := by
    simp [s_answer_3, sl2, sl_line 1 (by omega), env, k0, tx]
  obtain ⟨x, y, hx, hy, e⟩ := loop_run h (100000 - n) [] .un .un (by simp; omega) rfl rfl
  have en : 100000 - n + n = 100000 := by omega
  rw [en] at e
  have h27 : s_answer_4 (env tab p (k0 p) [.str p] .un .un) = .ok .nx (env tab p K' [] x y) := by
    refine e.trans ?_
    have : 100000 - n = (99999 - n) + 1 := by omega
    rw [this]
    exact while_f (by simp [wT, env, sl_line 0 (by omega)])
  have h34 : s_answer_11 (env tab p K' [] x y) = .ok (.rt (.fz (tx w pl))) (env tab p K' [] x y) := by
    simp [s_answer_11, env, es.val]
  have : φ_answer [.fz (.dct tab), .fz (.str p), .un, .un, .un, .un] = _ := (seq_nx h24).trans ((seq_nx h26).trans ((seq_nx h27).trans h34))
  simp [F_answer, runB, this, bosF, env]
end LW

namespace LW
open PySem DL
/-! ### that a run ends -/
structure Pth (p : Str) (o : Option Str) : Prop where
  nm : F_is_name [.fz (.str p)] = .ok false (.bl true) []
  up : Par p o
  ln : p.length + 2 ≤ 1000
  one : o = none → ∃ l, Txt.split p "/" = [l]
  more : ∀ a, o = some a → ∃ r l, r ≠ [] ∧ Txt.split p "/" = r ++ [l] ∧ Txt.join "/" r = a ∧ (r.map (·.length)).sum + r.length ≤ 1000 ∧ l.length ≤ 1000
structure Uni (Us : List Str) : Prop where
  pth : ∀ p ∈ Us, ∃ o, Pth p o ∧ ∀ a, o = some a → a ∈ Us
structure TabOk (Us : List Str) (tab : Tab) : Prop where
  val : ∀ h v, getK tab (.inr h) = some v → h.length ≤ 1000 ∧ (v = fold ∨ (∃ s, v = .tup [.str "file", .str s]) ∨ ∃ t, v = .tup [.str "link", .str t] ∧ t ∈ Us)
structure GoodK (tab K : Tab) : Prop where
  val : ∀ x v, getK K (.inr x) = some v → ∃ w pl, v = tx w pl ∧ w ≠ "needed" ∧ (w = "place" → pl.length ≤ 1000 ∧ ∃ u, getK tab (.inr pl) = some u)
theorem GoodK.put {tab K : Tab} {q w pl : Str} (h : GoodK tab K) (hw : w ≠ "needed") (hp : w = "place" → pl.length ≤ 1000 ∧ ∃ u, getK tab (.inr pl) = some u) : GoodK tab (putD K (.str q) (tx w pl)) := ⟨fun x v e => by
  rw [getK_putS] at e
  by_cases hq : q = x
  · rw [if_pos hq] at e; cases e; exact ⟨w, pl, rfl, hw, hp⟩
  · rw [if_neg hq] at e; exact h.val x v e⟩
def miss (Us : List Str) (K : Tab) : Nat := Us.countP fun u => (getK K (.inr u)).isNone
theorem countP_lt {α : Type} {p p' : α → Bool} : ∀ {l : List α}, (∀ u, p' u = true → p u = true) → (∃ q ∈ l, p q = true ∧ p' q = false) → l.countP p' < l.countP p
  | [], _, ⟨q, h, _⟩ => by cases h
  | a :: l, h, ⟨q, hq, h1, h2⟩ => by
    have le : l.countP p' ≤ l.countP p := List.countP_mono_left fun x _ => h x
    rw [List.countP_cons, List.countP_cons]
    rcases List.mem_cons.mp hq with rfl | hq
    · rw [h1, h2]; simp; omega
    · have ih := countP_lt h ⟨q, hq, h1, h2⟩
      cases e : p' a with
      | true => rw [h a e]; simp; omega
      | false => simp; omega
theorem miss_put {Us : List Str} {K : Tab} {q : Str} {v : D} (hq : q ∈ Us) (hn : getK K (.inr q) = none) : miss Us (putD K (.str q) v) < miss Us K := by
  refine countP_lt (fun u hu => ?_) ⟨q, hq, by rw [hn]; rfl, by simp⟩
  rw [getK_putS] at hu
  by_cases e : q = u
  · rw [if_pos e] at hu; cases hu
  · rw [if_neg e] at hu; exact hu
theorem miss_le {Us : List Str} {K K' : Tab} (h : ∀ x : Str, (getK K (.inr x)).isSome → (getK K' (.inr x)).isSome) : miss Us K' ≤ miss Us K := by
  refine List.countP_mono_left fun u _ hu => ?_
  cases e : getK K (.inr u) with
  | none => rfl
  | some v =>
    have := h u (by rw [e]; rfl)
    cases e' : getK K' (.inr u) with
    | none => rw [e'] at this; cases this
    | some v => rw [e'] at hu; cases hu
theorem not_link {v : D} {Us : List Str} (h : v = fold ∨ (∃ s, v = .tup [.str "file", .str s]) ∨ ∃ t, v = .tup [.str "link", .str t] ∧ t ∈ Us) : (∃ k r, v = .tup (.str k :: r) ∧ k ≠ "link") ∨ ∃ t, v = .tup [.str "link", .str t] ∧ t ∈ Us := by
  rcases h with rfl | ⟨s, rfl⟩ | h
  · exact .inl ⟨_, _, rfl, by decide⟩
  · exact .inl ⟨_, _, rfl, by decide⟩
  · exact .inr h
theorem not_fold {v : D} {Us : List Str} (h : v = fold ∨ (∃ s, v = .tup [.str "file", .str s]) ∨ ∃ t, v = .tup [.str "link", .str t] ∧ t ∈ Us) : v = fold ∨ eqD v 40 fold = some false := by
  rcases h with rfl | ⟨s, rfl⟩ | ⟨t, rfl, _⟩
  · exact .inl rfl
  · exact .inr (by simp [fold, eqD, eqL, fl, L2.eqV])
  · exact .inr (by simp [fold, eqD, eqL, fl, L2.eqV])
/-- a path whose place is looked at: told, or a target is needed -/
theorem fin_some {Us : List Str} {tab K : Tab} (T : TabOk Us tab) (G : GoodK tab K) (h : Str) : (∃ w pl, Fin tab K h (.done w pl) ∧ w ≠ "needed" ∧ (w = "place" → pl.length ≤ 1000 ∧ ∃ u, getK tab (.inr pl) = some u)) ∨ ∃ q ∈ Us, Fin tab K h (.need q) := by
  cases e : getK tab (.inr h) with
  | none => exact .inl ⟨_, _, .no e, by decide, fun q => absurd q (by decide)⟩
  | some v =>
    obtain ⟨hl, hv⟩ := T.val h v e
    rcases not_link hv with ⟨k, r, rfl, hk⟩ | ⟨t, rfl, ht⟩
    · exact .inl ⟨_, _, .pl e hk, by decide, fun _ => ⟨hl, _, e⟩⟩
    · cases e2 : getK K (.inr t) with
      | none => exact .inr ⟨t, ht, .lk0 e e2⟩
      | some u =>
        obtain ⟨w, pl, rfl, hw, hp⟩ := G.val t u e2
        exact .inl ⟨w, pl, .lk1 e e2, hw, hp⟩
theorem wo_some {Us : List Str} {tab K : Tab} (U : Uni Us) (T : TabOk Us tab) (G : GoodK tab K) {p : Str} (hp : p ∈ Us) : (∃ w pl, Wo tab K p (.done w pl) ∧ w ≠ "needed" ∧ (w = "place" → pl.length ≤ 1000 ∧ ∃ u, getK tab (.inr pl) = some u)) ∨ ∃ q ∈ Us, Wo tab K p (.need q) := by
  obtain ⟨o, P, ha⟩ := U.pth p hp
  cases o with
  | none =>
    rcases fin_some T G p with ⟨w, pl, f, h1, h2⟩ | ⟨q, hq, f⟩
    · exact .inl ⟨w, pl, .top P.up f, h1, h2⟩
    · exact .inr ⟨q, hq, .top P.up f⟩
  | some a =>
    cases e : getK K (.inr a) with
    | none => exact .inr ⟨a, ha a rfl, .up P.up e⟩
    | some v =>
      obtain ⟨w, pl, rfl, hw, hpl⟩ := G.val a v e
      by_cases hw2 : w = "place"
      · subst hw2
        obtain ⟨hl, u, hu⟩ := hpl rfl
        rcases not_fold (T.val pl u hu).2 with rfl | hne
        · obtain ⟨r, l, _, hs, _, _, ll⟩ := P.more a rfl
          rcases fin_some T G (pl ++ "/" ++ l) with ⟨w, pl', f, h1, h2⟩ | ⟨q, hq, f⟩
          · exact .inl ⟨w, pl', .sub P.up e hu ⟨⟨r, hs⟩, P.ln⟩ hl ll f, h1, h2⟩
          · exact .inr ⟨q, hq, .sub P.up e hu ⟨⟨r, hs⟩, P.ln⟩ hl ll f⟩
        · exact .inl ⟨_, _, .upm P.up e hu hne, by decide, fun q => absurd q (by decide)⟩
      · exact .inl ⟨_, _, .upw P.up e hw2, hw, fun q => absurd q hw2⟩
theorem ev_some {Us : List Str} {tab : Tab} (U : Uni Us) (T : TabOk Us tab) (B : Nat) (hB : B ≤ 1000) : ∀ (m : Nat) (K : Tab) (p : Str), miss Us K ≤ m → p ∈ Us → (getK K (.inr p)).isSome → GoodK tab K → K.length + miss Us K ≤ B → ∃ n w pl K', Ev tab n K p w pl K' ∧ GoodK tab K' ∧ K'.length + miss Us K' ≤ B := by
  intro m
  induction m with
  | zero =>
    intro K p hm hp hs G hl
    rcases wo_some U T G hp with ⟨w, pl, h, h1, h2⟩ | ⟨q, hq, h⟩
    · have e2 : (putD K (.str p) (tx w pl)).length = K.length := by rw [len_put (kk := .inr p) rfl, if_pos hs]
      refine ⟨_, w, pl, _, .stop h h1 (by omega), G.put h1 h2, ?_⟩
      have := miss_le (Us := Us) (K := K) (K' := putD K (.str p) (tx w pl)) fun x hx => by
        rw [getK_putS]; split
        · rfl
        · exact hx
      omega
    · have := miss_put (v := .non) hq (wo_new h)
      omega
  | succ m ih =>
    intro K p hm hp hs G hl
    rcases wo_some U T G hp with ⟨w, pl, h, h1, h2⟩ | ⟨q, hq, h⟩
    · have e2 : (putD K (.str p) (tx w pl)).length = K.length := by rw [len_put (kk := .inr p) rfl, if_pos hs]
      refine ⟨_, w, pl, _, .stop h h1 (by omega), G.put h1 h2, ?_⟩
      have := miss_le (Us := Us) (K := K) (K' := putD K (.str p) (tx w pl)) fun x hx => by
        rw [getK_putS]; split
        · rfl
        · exact hx
      omega
    · have hn := wo_new h
      have hlt := miss_put (v := tx "round" "") hq hn
      have hlen : (putD K (.str q) (tx "round" "")).length = K.length + 1 := by rw [len_put (kk := .inr q) rfl, if_neg (by rw [hn]; exact Bool.false_ne_true)]
      obtain ⟨n1, w1, pl1, K1, E1, G1, l1⟩ := ih (putD K (.str q) (tx "round" "")) q (by omega) hq (by simp) (G.put (by decide) fun z => absurd z (by decide)) (by omega)
      have s1 := ev_s E1 (by simp)
      have hle := miss_le (Us := Us) s1.has
      have hs1 : (getK K1 (.inr p)).isSome := s1.has p (by rw [getK_putS]; split; rfl; exact hs)
      obtain ⟨n2, w2, pl2, K2, E2, G2, l2⟩ := ih K1 p (by omega) hp hs1 G1 l1
      exact ⟨_, w2, pl2, K2, .need h (by omega) E1 E2, G2, l2⟩
theorem par_uniq {p : Str} {o o' : Option Str} (h : Par p o) (h' : Par p o') : o = o' := by
  have e := h.up.symm.trans h'.up
  cases o with
  | none =>
    cases o' with
    | none => rfl
    | some a => cases e
  | some a =>
    cases o' with
    | none => cases e
    | some a' =>
      have e : FR.ok false (D.str a) [] = FR.ok false (D.str a') [] := e
      injection e with _ e2
      injection e2 with e3
      rw [e3]
theorem last_uniq {p l l' : Str} {r : List Str} (h : Last p l) (e : Txt.split p "/" = r ++ [l']) : l = l' := by
  obtain ⟨r2, e2⟩ := h.sp
  rw [e] at e2
  have := congrArg List.getLast? e2
  simp at this
  exact this.symm
theorem lt_line (n : Nat) (h : n ≤ 1000000) : n < sizeLine := by have := sl_line 1000001 (by omega); omega
@[simp] theorem sl_but (l : List D) (x : D) : slD (.lst (l ++ [x])) none (some (-1)) = some (.ow (.lst l)) := by
  unfold slD
  simp [HT.sIx]
  have : (-1 + ((l.length : Int) + 1)).toNat = l.length := by omega
  rw [this]
  simp
theorem strsOf_map : ∀ l : List Str, strsOf (l.map .str) = some l
  | [] => rfl
  | a :: l => by
    show (strsOf (l.map .str)).map _ = _
    rw [strsOf_map l]; rfl
theorem join_run {r : List Str} (h : (r.map (·.length)).sum + r.length ≤ 1000) : sJoin (.str "/") [.lst (r.map .str)] = some (.fz (.str (Txt.join "/" r))) := by
  show sJoinL "/" (r.map .str) = _
  unfold sJoinL
  rw [strsOf_map]
  have : (Str.ofString "/").length = 1 := rfl
  show (if (r.map (·.length)).sum + r.length * (Str.ofString "/").length ≤ 16777216 then _ else _) = _
  rw [if_pos (by rw [this]; omega)]
@[simp] theorem mSl_none (φ : M AV) (ψ : M AV) (ρ : DL.Env) : mSl φ none (some ψ) ρ = (φ.bnd fun a => (frz a).bnd fun d => ψ.bnd fun e => (rd e).bnd fun x => (edgeD x).bnd fun u => lift (slD d none u)) ρ := by
  unfold mSl mEdge
  simp only [M.bnd_assoc, M.ret_bnd]
@[simp] theorem edgeD_int (i : Int) (ρ : DL.Env) : edgeD (.int i) ρ = .ok (some i) ρ := rfl
@[simp] theorem fLen_lst (l : List D) : fLen [.lst l] = some (.fz (.int l.length)) := rfl
@[simp] theorem opGt_int (i j : Int) : opGt (.int i) (.int j) = some (.fz (.bl (decide (j < i)))) := rfl
end LW

namespace LW
open PySem DL
/-! ### what is drawn -/
@[simp] theorem opGt_i (i j : Int) : opGt (.int i) (.int j) = some (.fz (.bl (decide (j < i)))) := rfl
@[simp] theorem opLt_i (i j : Int) : opLt (.int i) (.int j) = some (.fz (.bl (decide (i < j)))) := rfl
@[simp] theorem opSub_i (i j : Int) : opSub (.int i) (.int j) = some (.fz (.int (i - j))) := rfl
theorem opMul_i (i j : Int) (h : L2.CMul i j) : opMul (.int i) (.int j) = some (.fz (.int (i * j))) := by
  show (if L2.CMul i j then some (AV.fz (.int (i * j))) else none) = _
  rw [if_pos h]
theorem opMod_i (i j : Int) (h : 0 < j) : opMod (.int i) (.int j) = some (.fz (.int (i % j))) := by
  show (if 0 < j then some (AV.fz (.int (i % j))) else none) = _
  rw [if_pos h]
theorem opDiv_i (i j : Int) (h : L2.CDiv i j) : opDiv (.int i) (.int j) = some (.fz (.int (i / j))) := by
  show (if L2.CDiv i j then some (AV.fz (.int (i / j))) else none) = _
  rw [if_pos h]
@[simp] theorem fInt_i (i : Int) : fInt [.int i] = some (.fz (.int i)) := rfl
@[simp] theorem fAbs_i (i : Int) : fAbs [.int i] = some (.fz (.int (if i < 0 then -i else i))) := rfl
@[simp] theorem fMax_i (i j : Int) : fMax [.int i, .int j] = some (.fz (.int (if j > i then j else i))) := rfl
@[simp] theorem fMin_i (i j : Int) : fMin [.int i, .int j] = some (.fz (.int (if j < i then j else i))) := rfl
@[simp] theorem fLen_scr (l : List Int) : fLen [.scr l] = some (.fz (.int l.length)) := rfl
@[simp] theorem ix_l0 (a : D) (r : List D) : ixD (.lst (a :: r)) (.int 0) = some (.fz a) := by
  show ((L2.atI (a :: r) 0).map AV.fz) = _
  rw [show L2.atI (a :: r) 0 = some a from L2.atI_nat (j := 0) rfl]; rfl
@[simp] theorem ix_l1 (a c : D) (r : List D) : ixD (.lst (a :: c :: r)) (.int 1) = some (.fz c) := by
  show ((L2.atI (a :: c :: r) 1).map AV.fz) = _
  rw [show L2.atI (a :: c :: r) 1 = some c from L2.atI_nat (j := 1) rfl]; rfl
@[simp] theorem set_l0 (a b x : D) : setD (.lst [a, b]) (.int 0) x = some (.lst [x, b]) := by
  unfold setD
  simp [L2.ixN]
@[simp] theorem set_l1 (a b x : D) : setD (.lst [a, b]) (.int 1) x = some (.lst [a, x]) := by
  unfold setD
  simp [L2.ixN]
def feed (a b : Int) : D := .lst [.int a, .int b]
theorem big (x : Int) : L2.CMul x 6364136223846793005 := .inr (by decide)
theorem take_run (a b m : Int) (h : 0 < m) (h2 : m < 1000) : ∃ r a' b', 0 ≤ r ∧ r < m ∧ F_law_take [.bo (feed a b), .fz (.int m)] = .ok false (.int r) [feed a' b'] := by
  have cm : L2.CDiv a m := ⟨h, by omega⟩
  by_cases ha : 0 < a
  · refine ⟨a % m, a / m, b, Int.emod_nonneg _ (by omega), Int.emod_lt_of_pos _ h, ?_⟩
    have h59 : s_law_take_1 [.bo (feed a b), .fz (.int m), .un] = .ok (.rt (.sl 2)) [.bo (feed (a / m) b), .fz (.int m), .fz (.int (a % m))] := by
      simp [s_law_take_1, s_law_take_2, s_law_take_3, s_law_take_4, feed, ha, opMod_i _ _ h, opDiv_i _ _ cm]
    have : φ_law_take [.bo (feed a b), .fz (.int m), .un] = _ := seq_rt h59
    simp [F_law_take, runB, this, bosF]
  · have c1 : L2.CDiv (((b * 6364136223846793005 + 1442695040888963407) % 2305843009213693951)) 65536 := ⟨by decide, by decide⟩
    refine ⟨(((b * 6364136223846793005 + 1442695040888963407) % 2305843009213693951) / 65536) % m, a, (b * 6364136223846793005 + 1442695040888963407) % 2305843009213693951, Int.emod_nonneg _ (by omega), Int.emod_lt_of_pos _ h, ?_⟩
    have h59 : s_law_take_1 [.bo (feed a b), .fz (.int m), .un] = .ok .nx [.bo (feed a b), .fz (.int m), .un] := by
      simp [s_law_take_1, feed, ha]
    have h63 : s_law_take_5 [.bo (feed a b), .fz (.int m), .un] = .ok .nx [.bo (feed a ((b * 6364136223846793005 + 1442695040888963407) % 2305843009213693951)), .fz (.int m), .un] := by
      simp [s_law_take_5, feed, opMul_i _ _ (big b), opMod_i _ 2305843009213693951 (by decide)]
    have h64 : s_law_take_6 [.bo (feed a ((b * 6364136223846793005 + 1442695040888963407) % 2305843009213693951)), .fz (.int m), .un] = .ok (.rt (.fz (.int ((((b * 6364136223846793005 + 1442695040888963407) % 2305843009213693951) / 65536) % m)))) [.bo (feed a ((b * 6364136223846793005 + 1442695040888963407) % 2305843009213693951)), .fz (.int m), .un] := by
      simp [s_law_take_6, feed, opDiv_i _ _ c1, opMod_i _ _ h]
    have : φ_law_take [.bo (feed a b), .fz (.int m), .un] = _ := (seq_nx h59).trans ((seq_nx h63).trans h64)
    simp [F_law_take, runB, this, bosF]
theorem ix_nat {l : List D} {i : Int} {j : Nat} {x : D} (hi : i = (j : Int)) (h : l[j]? = some x) : ixD (.lst l) (.int i) = some (.fz x) := by
  subst hi
  show ((L2.atI l (j : Int)).map AV.fz) = _
  rw [L2.atI_nat h]; rfl
theorem pick_run (a b : Int) (l : List D) (h : l ≠ []) (h2 : l.length < 1000) : ∃ x a' b', x ∈ l ∧ F_law_pick [.bo (feed a b), .fz (.lst l)] = .ok false x [feed a' b'] := by
  have hl : 0 < l.length := List.length_pos_iff.mpr h
  obtain ⟨r, a', b', h0, h1, e⟩ := take_run a b (l.length : Int) (by omega) (by omega)
  obtain ⟨j, rfl⟩ : ∃ j : Nat, r = (j : Int) := ⟨r.toNat, by omega⟩
  have hj : j < l.length := by omega
  refine ⟨l[j], a', b', List.getElem_mem hj, ?_⟩
  have ei : ixD (.lst l) (.int (j : Int)) = some (.fz l[j]) := ix_nat rfl (List.getElem?_eq_getElem hj)
  have : φ_law_pick [.bo (feed a b), .fz (.lst l)] = .ok (.rt (.fz l[j])) [.bo (feed a' b'), .fz (.lst l)] := by
    show s_law_pick_1 _ = _
    simp [s_law_pick_1, e, ei]
  simp [F_law_pick, runB, this, bosF]
theorem feed_run (ns : List Int) (k : Nat) (hk : k < 3) : ∃ a b, F_law_feed [.fz (.scr ns), .fz (.int k)] = .ok true (feed a b) [] := by
  have h61 : opMul (.int 61) (.int (k : Int)) = some (.fz (.int (61 * k))) := opMul_i _ _ (.inl (by decide))
  have h79 : opMul (.int 7919) (.int (k : Int)) = some (.fz (.int (7919 * k))) := opMul_i _ _ (.inl (by decide))
  have hpw : opPow (.int 10) (.int 18) = some (.fz (.int (10 ^ 18))) := by
    show (if L2.CPow 10 18 then some (AV.fz (.int (10 ^ (18 : Int).toNat))) else none) = _
    rw [if_pos (by unfold L2.CPow; decide)]; rfl
  have h54 : ∃ c, s_law_feed_1 [.fz (.scr ns), .fz (.int k), .un, .un, .un] = .ok .nx [.fz (.scr ns), .fz (.int k), .fz (.int c), .un, .un] := by
    by_cases hl : k < ns.length
    · refine ⟨ns[k], ?_⟩
      have ei : ixD (.scr ns) (.int (k : Int)) = some (.fz (.int ns[k])) := by
        show ((L2.atI ns (k : Int)).map fun n => AV.fz (.int n)) = _
        rw [L2.atI_nat (List.getElem?_eq_getElem hl)]; rfl
      simp [s_law_feed_1, hl, ei]
    · refine ⟨61 * k + 17, ?_⟩
      simp [s_law_feed_1, hl, h61]
  obtain ⟨c, h54⟩ := h54
  obtain ⟨a, h55⟩ : ∃ a, s_law_feed_2 [.fz (.scr ns), .fz (.int k), .fz (.int c), .un, .un] = .ok .nx [.fz (.scr ns), .fz (.int k), .fz (.int c), .fz (.int a), .un] := ⟨_, by simp [s_law_feed_2, hpw]; rfl⟩
  obtain ⟨b, h56⟩ : ∃ b, s_law_feed_3 [.fz (.scr ns), .fz (.int k), .fz (.int c), .fz (.int a), .un] = .ok .nx [.fz (.scr ns), .fz (.int k), .fz (.int c), .fz (.int a), .fz (.int b)] := ⟨_, by simp [s_law_feed_3, opMul_i _ _ (big c), h79, opMod_i _ 2305843009213693951 (by decide)]; rfl⟩
  refine ⟨a, b, ?_⟩
  have h57 : s_law_feed_4 [.fz (.scr ns), .fz (.int k), .fz (.int c), .fz (.int a), .fz (.int b)] = .ok (.rt (.ow (feed a b))) [.fz (.scr ns), .fz (.int k), .fz (.int c), .fz (.int a), .fz (.int b)] := by
    simp [s_law_feed_4, sl2, feed]
  have : φ_law_feed [.fz (.scr ns), .fz (.int k), .un, .un, .un] = _ := (seq_nx h54).trans ((seq_nx h55).trans ((seq_nx h56).trans h57))
  simp [F_law_feed, runB, this, bosF]
/-! the drawn table -/
def S13 : List Str := ["a", "a/b", "a/b/c", "a/d", "b", "b.d", "b.d/a", "b/a", "b/c", "c", "c/d", "c/d/e", "d"]
def S16 : List Str := S13 ++ (["a/b/c/d", "e", "a/a"] : List Str)
def V3 : List Str := ["", "x", "yy"]
def ValT (v : D) : Prop := v = fold ∨ (∃ s ∈ V3, v = .tup [.str "file", .str s]) ∨ ∃ t ∈ S16, v = .tup [.str "link", .str t]
def TreeT (tab : Tab) : Prop := ∀ p ∈ tab, (∃ s ∈ S13, p.1 = .str s) ∧ ValT p.2
theorem TreeT.put {tab : Tab} {s : Str} {v : D} (h : TreeT tab) (hs : s ∈ S13) (hv : ValT v) : TreeT (putD tab (.str s) v) := by
  intro p hp
  unfold putD at hp
  split at hp
  · obtain ⟨q, hq, rfl⟩ := List.mem_map.mp hp
    split
    · exact ⟨(h q hq).1, hv⟩
    · exact h q hq
  · rcases List.mem_append.mp hp with hp | hp
    · exact h p hp
    · rw [List.mem_singleton.mp hp]; exact ⟨⟨s, hs, rfl⟩, hv⟩
theorem len_put_le {tab : Tab} {s : Str} {v : D} : (putD tab (.str s) v).length ≤ tab.length + 1 := by
  rw [len_put (kk := .inr s) rfl]
  split <;> omega
def TI (n : Nat) (ρ : DL.Env) : Prop := ∃ a b tab x3 x4, ρ = [.bo (feed a b), .fz (.lst (S13.map .str)), .ow (.dct tab), x3, x4] ∧ TreeT tab ∧ tab.length ≤ n ∧ isBo x3 = false ∧ isBo x4 = false
theorem tree_turn {a b : Int} {tab : Tab} {s : Str} {x4 : Sl} {n : Nat} (hn : n ≤ 100) (hs : s ∈ S13) (h : TreeT tab) (hl : tab.length ≤ n) (h4 : isBo x4 = false) :
    ∃ ρ2, (mSeq s_law_tree_4 s_law_tree_5) [.bo (feed a b), .fz (.lst (S13.map .str)), .ow (.dct tab), .fz (.str s), x4] = .ok .nx ρ2 ∧ TI (n + 1) ρ2 := by
  obtain ⟨r, a1, b1, hr0, hr8, e1⟩ := take_run a b 8 (by omega) (by omega)
  have h71 : s_law_tree_4 [.bo (feed a b), .fz (.lst (S13.map .str)), .ow (.dct tab), .fz (.str s), x4] = .ok .nx [.bo (feed a1 b1), .fz (.lst (S13.map .str)), .ow (.dct tab), .fz (.str s), .fz (.int r)] := by
    simp [s_law_tree_4, e1, h4]
  have hz : tab.length < sizeLine := lt_line _ (by omega)
  have hle : ∀ v, (putD tab (.str s) v).length ≤ n + 1 := fun v => Nat.le_trans len_put_le (by omega)
  by_cases h3 : r < 3
  · refine ⟨[.bo (feed a1 b1), .fz (.lst (S13.map .str)), .ow (.dct (putD tab (.str s) fold)), .fz (.str s), .fz (.int r)], (seq_nx h71).trans ?_, a1, b1, _, _, _, rfl, h.put hs (.inl rfl), hle _, rfl, rfl⟩
    simp [s_law_tree_5, s_law_tree_6, h3, sl_line 1 (by omega), hz]
  · by_cases h33 : r = 3
    · obtain ⟨x, a2, b2, hx, e2⟩ := pick_run a1 b1 (V3.map .str) (by decide) (by decide)
      obtain ⟨y, hy, rfl⟩ := List.mem_map.mp hx
      refine ⟨[.bo (feed a2 b2), .fz (.lst (S13.map .str)), .ow (.dct (putD tab (.str s) (.tup [.str "file", .str y]))), .fz (.str s), .fz (.int r)], (seq_nx h71).trans ?_, a2, b2, _, _, _, rfl, h.put hs (.inr (.inl ⟨y, hy, rfl⟩)), hle _, rfl, rfl⟩
      have e2' : F_law_pick [.bo (feed a1 b1), .fz (.lst [.str "", .str "x", .str "yy"])] = .ok false (.str y) [feed a2 b2] := e2
      have eq3 : opEq (.int r) (.int 3) = some (.fz (.bl true)) := by
        subst h33
        simp [opEq, eqD, fl, L2.eqV]
      simp [s_law_tree_5, s_law_tree_7, s_law_tree_8, h3, eq3, sl2, sl_line 3 (by omega), hz, e2']
    · have eq3 : opEq (.int r) (.int 3) = some (.fz (.bl false)) := by
        simp [opEq, eqD, fl, L2.eqV, h33]
      by_cases h6 : r < 6
      · obtain ⟨x, a2, b2, hx, e2⟩ := pick_run a1 b1 (S16.map .str) (by decide) (by decide)
        obtain ⟨y, hy, rfl⟩ := List.mem_map.mp hx
        refine ⟨[.bo (feed a2 b2), .fz (.lst (S13.map .str)), .ow (.dct (putD tab (.str s) (.tup [.str "link", .str y]))), .fz (.str s), .fz (.int r)], (seq_nx h71).trans ?_, a2, b2, _, _, _, rfl, h.put hs (.inr (.inr ⟨y, hy, rfl⟩)), hle _, rfl, rfl⟩
        have ea : opAdd (.lst (S13.map .str)) (.lst [.str "a/b/c/d", .str "e", .str "a/a"]) = some (.ow (.lst (S16.map .str))) := by
          show (if (S13.map D.str).length + 3 ≤ sizeLine then some (AV.ow (.lst (S13.map D.str ++ [.str "a/b/c/d", .str "e", .str "a/a"]))) else none) = _
          rw [if_pos (sl_line _ (by decide))]; rfl
        simp [s_law_tree_5, s_law_tree_7, s_law_tree_9, s_law_tree_10, h3, eq3, h6, sl2, sl_line 3 (by omega), hz, e2, ea]
      · refine ⟨[.bo (feed a1 b1), .fz (.lst (S13.map .str)), .ow (.dct tab), .fz (.str s), .fz (.int r)], (seq_nx h71).trans ?_, a1, b1, _, _, _, rfl, h, by omega, rfl, rfl⟩
        simp [s_law_tree_5, s_law_tree_7, s_law_tree_9, h3, eq3, h6]
theorem tree_run (a b : Int) : ∃ a' b' tab, F_law_tree [.bo (feed a b)] = .ok true (.dct tab) [feed a' b'] ∧ TreeT tab ∧ tab.length ≤ 13 := by
  have h68 : s_law_tree_1 [.bo (feed a b), .un, .un, .un, .un] = .ok .nx [.bo (feed a b), .ow (.lst (S13.map .str)), .un, .un, .un] := by
    simp [s_law_tree_1, sl_line 13 (by omega), S13]
  have h69 : s_law_tree_2 [.bo (feed a b), .ow (.lst (S13.map .str)), .un, .un, .un] = .ok .nx [.bo (feed a b), .ow (.lst (S13.map .str)), .ow (.dct []), .un, .un] := by
    simp [s_law_tree_2]
  have hit : mItems (mVar 1) [.bo (feed a b), .ow (.lst (S13.map .str)), .ow (.dct []), .un, .un] = .ok (S13.map .str) [.bo (feed a b), .fz (.lst (S13.map .str)), .ow (.dct []), .un, .un] := by
    simp [mItems, itemsOf]
  obtain ⟨ρ', h70, a', b', tab, x3, x4, rfl, hT, hl, _, _⟩ := loop_ix (t := .nm 3) (body := mSeq s_law_tree_4 s_law_tree_5) TI (S13.map .str) [.bo (feed a b), .fz (.lst (S13.map .str)), .ow (.dct []), .un, .un] ⟨a, b, [], .un, .un, rfl, fun p hp => (by cases hp), Nat.le_refl _, rfl, rfl⟩ (fun i d hd ρ hI => by
    obtain ⟨a, b, tab, x3, x4, rfl, hT, hl, h3, h4⟩ := hI
    have hi : i < 13 := (List.getElem?_eq_some_iff.mp hd).1
    obtain ⟨s, hs, rfl⟩ := List.mem_map.mp (List.mem_of_getElem? hd)
    obtain ⟨ρ2, e2, hI2⟩ := tree_turn (a := a) (b := b) (n := i) (x4 := x4) (by omega) hs hT hl h4
    exact ⟨[.bo (feed a b), .fz (.lst (S13.map .str)), .ow (.dct tab), .fz (.str s), x4], ρ2, by simp [h3], .inl e2, hI2⟩)
  have h70' : s_law_tree_3 [.bo (feed a b), .ow (.lst (S13.map .str)), .ow (.dct []), .un, .un] = .ok .nx [.bo (feed a' b'), .fz (.lst (S13.map .str)), .ow (.dct tab), x3, x4] := (for_run hit).trans h70
  refine ⟨a', b', tab, ?_, hT, hl⟩
  have h78 : s_law_tree_11 [.bo (feed a' b'), .fz (.lst (S13.map .str)), .ow (.dct tab), x3, x4] = .ok (.rt (.sl 2)) [.bo (feed a' b'), .fz (.lst (S13.map .str)), .ow (.dct tab), x3, x4] := by
    simp [s_law_tree_11]
  have : φ_law_tree [.bo (feed a b), .un, .un, .un, .un] = _ := (seq_nx h68).trans ((seq_nx h69).trans ((seq_nx h70').trans h78))
  simp [F_law_tree, runB, this, bosF]
end LW

namespace LW
open PySem DL
/-! ### facts of texts, by running -/
def Us : List Str := S16 ++ (["b/a/b", "b/a/b/c"] : List Str)
def isT : FR → Bool
  | .ok false (.bl true) [] => true
  | _ => false
theorem isT_ok {r : FR} (h : isT r = true) : r = .ok false (.bl true) [] := by
  unfold isT at h
  split at h
  · rfl
  · cases h
def parR : FR → Option (Option Str)
  | .ok false (.str a) [] => some (some a)
  | .ok false .non [] => some none
  | _ => none
theorem parR_ok {p : Str} {o : Option Str} (h : parR (F_parent [.fz (.str p)]) = some o) : Par p o := ⟨by
  unfold parR at h
  split at h
  · rename_i e; cases h; exact e
  · rename_i e; cases h; exact e
  · cases h⟩
def topB (p : Str) : Bool := decide (parR (F_parent [.fz (.str p)]) = some none)
def pthB (U : List Str) (p : Str) : Bool := isT (F_is_name [.fz (.str p)]) && decide (p.length + 2 ≤ 1000) && match parR (F_parent [.fz (.str p)]) with
  | some none => decide ((Txt.split p "/").length = 1)
  | some (some a) => decide (a ∈ U) && decide (a ≠ "") && decide (2 ≤ (Txt.split p "/").length) && decide (Txt.join "/" (Txt.split p "/").dropLast = a) && decide ((((Txt.split p "/").dropLast).map (·.length)).sum + ((Txt.split p "/").dropLast).length ≤ 1000) && decide (((Txt.split p "/").getLast?.getD "").length ≤ 1000)
  | none => false
theorem pthB_ok {U : List Str} {p : Str} (h : pthB U p = true) : ∃ o, Pth p o ∧ ∀ a, o = some a → a ∈ U ∧ a ≠ "" := by
  unfold pthB at h
  rw [Bool.and_eq_true, Bool.and_eq_true] at h
  obtain ⟨⟨h1, h2⟩, h3⟩ := h
  cases e : parR (F_parent [.fz (.str p)]) with
  | none => rw [e] at h3; cases h3
  | some o =>
    rw [e] at h3
    cases o with
    | none =>
      have h3 := of_decide_eq_true h3
      refine ⟨none, ⟨isT_ok h1, parR_ok e, of_decide_eq_true h2, fun _ => ?_, fun a q => (by cases q)⟩, fun a q => (by cases q)⟩
      match hs : Txt.split p "/", h3 with
      | [l], _ => exact ⟨l, rfl⟩
    | some a =>
      simp only [Bool.and_eq_true, decide_eq_true_eq] at h3
      obtain ⟨⟨⟨⟨⟨g1, g2⟩, g3⟩, g4⟩, g5⟩, g6⟩ := h3
      refine ⟨some a, ⟨isT_ok h1, parR_ok e, of_decide_eq_true h2, fun q => (by cases q), fun b q => ?_⟩, fun b q => (by cases q; exact ⟨g1, g2⟩)⟩
      cases q
      have hne : Txt.split p "/" ≠ [] := fun q => by rw [q] at g3; simp at g3
      have hd : Txt.split p "/" = (Txt.split p "/").dropLast ++ [(Txt.split p "/").getLast hne] := (List.dropLast_concat_getLast hne).symm
      refine ⟨_, _, fun q => ?_, hd, g4, g5, ?_⟩
      · have := congrArg List.length q
        rw [List.length_dropLast] at this
        simp at this
        omega
      · rw [List.getLast?_eq_some_getLast hne] at g6
        exact g6
theorem us_all : Us.all (pthB Us) = true := by kernel_rfl
theorem us_pth {p : Str} (h : p ∈ Us) : ∃ o, Pth p o ∧ ∀ a, o = some a → a ∈ Us ∧ a ≠ "" := pthB_ok (List.all_eq_true.mp us_all p h)
theorem us_uni : Uni Us := ⟨fun p h => by
  obtain ⟨o, P, ha⟩ := us_pth h
  exact ⟨o, P, fun a e => (ha a e).1⟩⟩
end LW

namespace LW
open PySem DL
/-! ### repr and sorted of a drawn table -/
def ValsL : List D := fold :: (V3.map fun s => D.tup [.str "file", .str s]) ++ S16.map fun s => D.tup [.str "link", .str s]
theorem vals_mem {v : D} (h : ValT v) : v ∈ ValsL := by
  rcases h with rfl | ⟨s, hs, rfl⟩ | ⟨s, hs, rfl⟩
  · exact List.mem_append_left _ List.mem_cons_self
  · exact List.mem_append_left _ (List.mem_cons_of_mem _ (List.mem_map.mpr ⟨s, hs, rfl⟩))
  · exact List.mem_append_right _ (List.mem_map.mpr ⟨s, hs, rfl⟩)
def entB (s : Str) (v : D) : Bool := match toPy v with
  | some q => q.showable && decide ((PyData.shown (.str s) ++ ": " ++ PyData.shown q).length ≤ 60) && decide (q.depth ≤ 3) && noLst v
  | none => false
theorem ent_all : (S13.all fun s => ValsL.all fun v => entB s v) = true := by kernel_rfl
theorem ent_ok {s : Str} {v : D} (hs : s ∈ S13) (hv : ValT v) : ∃ q, toPy v = some q ∧ q.showable = true ∧ (PyData.shown (.str s) ++ ": " ++ PyData.shown q).length ≤ 60 ∧ q.depth ≤ 3 ∧ noLst v = true := by
  have h1 := List.all_eq_true.mp ent_all s hs
  have h2 := List.all_eq_true.mp h1 v (vals_mem hv)
  unfold entB at h2
  cases e : toPy v with
  | none => rw [e] at h2; cases h2
  | some q =>
    rw [e] at h2
    simp only [Bool.and_eq_true, decide_eq_true_eq] at h2
    exact ⟨q, rfl, h2.1.1.1, h2.1.1.2, h2.1.2, h2.2⟩
theorem py_of : ∀ {tab : Tab}, TreeT tab → ∃ ps, toPyK tab = some ps ∧ PyData.showableKv ps = true ∧ PySem.piled (PyData.shownKv ps) ≤ 62 * tab.length ∧ PyData.depthKv ps ≤ 3 ∧ tab.all (fun p => noLst p.1 && noLst p.2) = true
  | [], _ => ⟨[], rfl, by simp only [PyData.showableKv], by simp [PyData.shownKv, PySem.piled], by simp [PyData.depthKv], rfl⟩
  | (k, v) :: r, h => by
    obtain ⟨⟨s, hs, ek⟩, hv⟩ := h (k, v) List.mem_cons_self
    have ek : k = .str s := ek
    subst ek
    obtain ⟨ps, e, h1, h2, h3, h4⟩ := py_of (tab := r) fun p hp => h p (List.mem_cons_of_mem _ hp)
    obtain ⟨q, eq, g1, g2, g3, g4⟩ := ent_ok hs hv
    refine ⟨(.str s, q) :: ps, ?_, ?_, ?_, ?_, ?_⟩
    · unfold toPyK
      have : toPy (.str s) = some (.str s) := by unfold toPy; rfl
      rw [this, eq, e]
    · simp only [PyData.showableKv, PyData.showable, g1, h1]; rfl
    · simp only [PyData.shownKv]
      rw [PySem.piled_cons]
      have := g2
      rw [List.length_cons]
      omega
    · simp only [PyData.depthKv, PyData.depth]
      omega
    · rw [List.all_cons, h4, g4]
      have : noLst (.str s) = true := by unfold noLst; rfl
      show (noLst (.str s) && true && true) = true
      rw [this]; rfl
theorem repr_ok {tab : Tab} (h : TreeT tab) (hl : tab.length ≤ 13) : ∃ sh, fRepr [.dct tab] = some (.fz (.str sh)) := by
  obtain ⟨ps, e, h1, h2, h3, h4⟩ := py_of h
  refine ⟨PyData.shown (.dict ps), ?_⟩
  have ok : okPy (.dict ps) = true := by
    unfold okPy
    rw [Bool.and_eq_true, Bool.and_eq_true]
    refine ⟨⟨by simp only [PyData.showable]; exact h1, decide_eq_true ?_⟩, decide_eq_true ?_⟩
    · simp only [PyData.shown]
      unfold PySem.dictText
      rw [strLen_append, strLen_append]
      have c1 : (Str.ofString "{").length = 1 := rfl
      have c2 : (Str.ofString "}").length = 1 := rfl
      by_cases hn : PyData.shownKv ps = []
      · rw [hn]
        have : (Str.join ", " []).length = 0 := rfl
        exact sl_line _ (by omega)
      · have := PySem.join_length_add _ hn
        exact sl_line _ (by omega)
    · simp only [PyData.depth]
      omega
  show (match toPyK tab with
    | some ps => if okPy (.dict ps) && tab.all (fun p => noLst p.1 && noLst p.2) then some (AV.fz (.str (PyData.shown (.dict ps)))) else none
    | none => none) = _
  rw [e]
  simp only [ok, h4]
  rfl
theorem keys_of : ∀ {tab : Tab}, TreeT tab → ∃ ks, strsOf (tab.map (·.1)) = some ks ∧ (∀ k ∈ ks, k ∈ S13) ∧ ks.length = tab.length
  | [], _ => ⟨[], rfl, fun k h => (by cases h), rfl⟩
  | (k, v) :: r, h => by
    obtain ⟨⟨s, hs, ek⟩, _⟩ := h (k, v) List.mem_cons_self
    have ek : k = .str s := ek
    subst ek
    obtain ⟨ks, e, h1, h2⟩ := keys_of (tab := r) fun p hp => h p (List.mem_cons_of_mem _ hp)
    refine ⟨s :: ks, ?_, fun k hk => ?_, by rw [List.length_cons, List.length_cons, h2]⟩
    · show (strsOf (r.map (·.1))).map _ = _
      rw [e]; rfl
    · rcases List.mem_cons.mp hk with rfl | hk
      · exact hs
      · exact h1 k hk
theorem sorted_ok {tab : Tab} (h : TreeT tab) (hl : tab.length ≤ 13) : ∃ ks : List Str, fSorted [.dct tab] = some (.ow (.lst (ks.map .str))) ∧ (∀ k ∈ ks, k ∈ S13) ∧ ks.length ≤ 13 := by
  obtain ⟨ks, e, h1, h2⟩ := keys_of h
  refine ⟨sortS ks, ?_, fun k hk => h1 k ((sortS_perm ks).mem_iff.mp hk), by rw [(sortS_perm ks).length_eq]; omega⟩
  show (sortFlat (tab.map (·.1))).map _ = _
  unfold sortFlat
  rw [e]
  show (if ks.length < 64 then _ else _ : Option (List D)).map _ = _
  rw [if_pos (by omega)]; rfl
theorem getK_mem {x : L2.Key} {v : D} : ∀ {tab : Tab}, getK tab x = some v → ∃ p ∈ tab, keyOf p.1 = some x ∧ p.2 = v
  | [], h => by cases h
  | (k, d) :: r, h => by
    rw [getK_cons] at h
    by_cases e : keyOf k = some x
    · rw [if_pos e] at h; cases h; exact ⟨_, List.mem_cons_self, e, rfl⟩
    · rw [if_neg e] at h
      obtain ⟨p, hp, h1, h2⟩ := getK_mem h
      exact ⟨p, List.mem_cons_of_mem _ hp, h1, h2⟩
theorem tabOk_of {U : List Str} {tab : Tab} (h : TreeT tab) (hU : ∀ t ∈ S16, t ∈ U) : TabOk U tab := ⟨fun x v e => by
  obtain ⟨p, hp, h1, h2⟩ := getK_mem e
  obtain ⟨⟨s, hs, ek⟩, hv⟩ := h p hp
  rw [ek] at h1
  have : s = x := by cases h1; rfl
  subst this
  rw [h2] at hv
  have hl : (S13.all fun s => decide (s.length ≤ 1000)) = true := by decide +kernel
  refine ⟨of_decide_eq_true (List.all_eq_true.mp hl s hs), ?_⟩
  rcases hv with hv | ⟨s, _, hv⟩ | ⟨t, ht, hv⟩
  · exact .inl hv
  · exact .inr (.inl ⟨s, hv⟩)
  · exact .inr (.inr ⟨t, hv, hU t ht⟩)⟩
end LW

namespace LW
open PySem DL
/-! ### answers that come to an end -/
section
variable {tab : Tab}
inductive Hr (tab : Tab) (h : Str) : Str → Str → Prop
  | no : getK tab (.inr h) = none → Hr tab h "missing" ""
  | pl {k : Str} {r : List D} : getK tab (.inr h) = some (.tup (.str k :: r)) → k ≠ "link" → Hr tab h "place" h
inductive Tr (tab : Tab) : Str → Str → Str → Prop
  | upw {p a w pl : Str} : Par p (some a) → Tr tab a w pl → w ≠ "place" → Tr tab p w ""
  | upm {p a pl : Str} {v : D} : Par p (some a) → Tr tab a "place" pl → getK tab (.inr pl) = some v → eqD v 40 fold = some false → Tr tab p "missing" ""
  | top0 {p w pl : Str} : Par p none → Hr tab p w pl → Tr tab p w pl
  | topl {p t w pl : Str} : Par p none → getK tab (.inr p) = some (.tup [.str "link", .str t]) → Tr tab t w pl → Tr tab p w pl
  | sub0 {p a pl l w pl' : Str} : Par p (some a) → Tr tab a "place" pl → getK tab (.inr pl) = some fold → Last p l → Hr tab (pl ++ "/" ++ l) w pl' → Tr tab p w pl'
  | subl {p a pl l t w pl' : Str} : Par p (some a) → Tr tab a "place" pl → getK tab (.inr pl) = some fold → Last p l → getK tab (.inr (pl ++ "/" ++ l)) = some (.tup [.str "link", .str t]) → Tr tab t w pl' → Tr tab p w pl'
theorem ls_uniq {p l l' : Str} (h : Last p l) (h' : Last p l') : l = l' := by
  obtain ⟨r, e⟩ := h'.sp
  exact last_uniq h e
theorem Hr.uniq {h w pl w' pl' : Str} (a : Hr tab h w pl) (b : Hr tab h w' pl') : w = w' ∧ pl = pl' := by
  cases a with
  | no e =>
    cases b with
    | no _ => exact ⟨rfl, rfl⟩
    | pl e2 _ => rw [e] at e2; cases e2
  | pl e _ =>
    cases b with
    | no e2 => rw [e] at e2; cases e2
    | pl _ _ => exact ⟨rfl, rfl⟩
theorem Hr.nolink {h w pl t : Str} (a : Hr tab h w pl) (e : getK tab (.inr h) = some (.tup [.str "link", .str t])) : False := by
  cases a with
  | no e2 => rw [e] at e2; cases e2
  | pl e2 hk => rw [e] at e2; cases e2; exact hk rfl
theorem fold_ne {v : D} (h : eqD v 40 fold = some false) : v ≠ fold := fun e => by
  rw [e, eq_fold] at h; cases h
theorem Tr.uniq {p w pl w' pl' : Str} (a : Tr tab p w pl) (b : Tr tab p w' pl') : w = w' ∧ pl = pl' := by
  induction a generalizing w' pl' with
  | upw hp ha hw ih =>
    cases b with
    | upw hp2 hb hw2 => cases par_uniq hp hp2; exact ⟨(ih hb).1, rfl⟩
    | upm hp2 hb _ _ => cases par_uniq hp hp2; exact absurd (ih hb).1 hw
    | top0 hp2 _ => cases par_uniq hp hp2
    | topl hp2 _ _ => cases par_uniq hp hp2
    | sub0 hp2 hb _ _ _ => cases par_uniq hp hp2; exact absurd (ih hb).1 hw
    | subl hp2 hb _ _ _ _ => cases par_uniq hp hp2; exact absurd (ih hb).1 hw
  | upm hp ha e ne ih =>
    cases b with
    | upw hp2 hb hw2 => cases par_uniq hp hp2; exact absurd (ih hb).1.symm hw2
    | upm hp2 hb _ _ => exact ⟨rfl, rfl⟩
    | top0 hp2 _ => cases par_uniq hp hp2
    | topl hp2 _ _ => cases par_uniq hp hp2
    | sub0 hp2 hb e2 _ _ =>
      cases par_uniq hp hp2; cases (ih hb).2
      rw [e] at e2; cases e2; exact absurd rfl (fold_ne ne)
    | subl hp2 hb e2 _ _ _ =>
      cases par_uniq hp hp2; cases (ih hb).2
      rw [e] at e2; cases e2; exact absurd rfl (fold_ne ne)
  | top0 hp h =>
    cases b with
    | upw hp2 hb hw2 => cases par_uniq hp hp2
    | upm hp2 hb _ _ => cases par_uniq hp hp2
    | top0 hp2 h2 => exact h.uniq h2
    | topl hp2 e _ => exact (h.nolink e).elim
    | sub0 hp2 hb e2 _ _ => cases par_uniq hp hp2
    | subl hp2 hb e2 _ _ _ => cases par_uniq hp hp2
  | topl hp e ha ih =>
    cases b with
    | upw hp2 hb hw2 => cases par_uniq hp hp2
    | upm hp2 hb _ _ => cases par_uniq hp hp2
    | top0 hp2 h2 => exact (h2.nolink e).elim
    | topl hp2 e2 hb => rw [e] at e2; cases e2; exact ih hb
    | sub0 hp2 hb e2 _ _ => cases par_uniq hp hp2
    | subl hp2 hb e2 _ _ _ => cases par_uniq hp hp2
  | sub0 hp ha e hl h ih =>
    cases b with
    | upw hp2 hb hw2 => cases par_uniq hp hp2; exact absurd (ih hb).1.symm hw2
    | upm hp2 hb e2 ne =>
      cases par_uniq hp hp2; cases (ih hb).2
      rw [e] at e2; cases e2; exact absurd rfl (fold_ne ne)
    | top0 hp2 _ => cases par_uniq hp hp2
    | topl hp2 _ _ => cases par_uniq hp hp2
    | sub0 hp2 hb e2 hl2 h2 =>
      cases par_uniq hp hp2; cases (ih hb).2; cases ls_uniq hl hl2
      exact h.uniq h2
    | subl hp2 hb e2 hl2 e3 _ =>
      cases par_uniq hp hp2; cases (ih hb).2; cases ls_uniq hl hl2
      exact (h.nolink e3).elim
  | subl hp ha e hl e1 ht ih ih2 =>
    cases b with
    | upw hp2 hb hw2 => cases par_uniq hp hp2; exact absurd (ih hb).1.symm hw2
    | upm hp2 hb e2 ne =>
      cases par_uniq hp hp2; cases (ih hb).2
      rw [e] at e2; cases e2; exact absurd rfl (fold_ne ne)
    | top0 hp2 _ => cases par_uniq hp hp2
    | topl hp2 _ _ => cases par_uniq hp hp2
    | sub0 hp2 hb e2 hl2 h2 =>
      cases par_uniq hp hp2; cases (ih hb).2; cases ls_uniq hl hl2
      exact (h2.nolink e1).elim
    | subl hp2 hb e2 hl2 e3 ht2 =>
      cases par_uniq hp hp2; cases (ih hb).2; cases ls_uniq hl hl2
      rw [e1] at e3; cases e3
      exact ih2 ht2
theorem Tr.word {p w pl : Str} (a : Tr tab p w pl) : (w = "place" ∧ ∃ k r, getK tab (.inr pl) = some (.tup (.str k :: r)) ∧ k ≠ "link") ∨ (w = "missing" ∧ pl = "") := by
  have hr : ∀ {h w pl : Str}, Hr tab h w pl → (w = "place" ∧ ∃ k r, getK tab (.inr pl) = some (.tup (.str k :: r)) ∧ k ≠ "link") ∨ (w = "missing" ∧ pl = "") := fun a => by
    cases a with
    | no _ => exact .inr ⟨rfl, rfl⟩
    | pl e hk => exact .inl ⟨rfl, _, _, e, hk⟩
  induction a with
  | upw _ _ hw ih =>
    rcases ih with ⟨e, _⟩ | ⟨e, _⟩
    · exact absurd e hw
    · exact .inr ⟨e, rfl⟩
  | upm _ _ _ _ _ => exact .inr ⟨rfl, rfl⟩
  | top0 _ h => exact hr h
  | topl _ _ _ ih => exact ih
  | sub0 _ _ _ _ h _ => exact hr h
  | subl _ _ _ _ _ _ _ ih => exact ih
theorem Tr.nround {p w pl : Str} (a : Tr tab p w pl) : w ≠ "round" := by
  rcases a.word with ⟨e, _⟩ | ⟨e, _⟩ <;> rw [e] <;> decide
/-- what a path needs -/
inductive Nd (tab : Tab) (p : Str) : Str → Prop
  | up {a : Str} : Par p (some a) → Nd tab p a
  | top {t : Str} : Par p none → getK tab (.inr p) = some (.tup [.str "link", .str t]) → Nd tab p t
  | sub {a pl l t : Str} : Par p (some a) → Tr tab a "place" pl → getK tab (.inr pl) = some fold → Last p l → getK tab (.inr (pl ++ "/" ++ l)) = some (.tup [.str "link", .str t]) → Nd tab p t
abbrev NdR (tab : Tab) : Str → Str → Prop := fun q p => Nd tab p q
theorem Tr.acc {p w pl : Str} (a : Tr tab p w pl) : Acc (NdR tab) p := by
  induction a with
  | upw hp ha hw ih =>
    refine Acc.intro _ fun q hq => ?_
    cases hq with
    | up hp2 => cases par_uniq hp hp2; exact ih
    | top hp2 _ => cases par_uniq hp hp2
    | sub hp2 hb _ _ _ => cases par_uniq hp hp2; exact absurd (ha.uniq hb).1 hw
  | upm hp ha e ne ih =>
    refine Acc.intro _ fun q hq => ?_
    cases hq with
    | up hp2 => cases par_uniq hp hp2; exact ih
    | top hp2 _ => cases par_uniq hp hp2
    | sub hp2 hb e2 _ _ =>
      cases par_uniq hp hp2; cases (ha.uniq hb).2
      rw [e] at e2; cases e2; exact absurd rfl (fold_ne ne)
  | top0 hp h =>
    refine Acc.intro _ fun q hq => ?_
    cases hq with
    | up hp2 => cases par_uniq hp hp2
    | top hp2 e => exact (h.nolink e).elim
    | sub hp2 hb _ _ _ => cases par_uniq hp hp2
  | topl hp e ha ih =>
    refine Acc.intro _ fun q hq => ?_
    cases hq with
    | up hp2 => cases par_uniq hp hp2
    | top hp2 e2 => rw [e] at e2; cases e2; exact ih
    | sub hp2 hb _ _ _ => cases par_uniq hp hp2
  | sub0 hp ha e hl h ih =>
    refine Acc.intro _ fun q hq => ?_
    cases hq with
    | up hp2 => cases par_uniq hp hp2; exact ih
    | top hp2 _ => cases par_uniq hp hp2
    | sub hp2 hb e2 hl2 e3 =>
      cases par_uniq hp hp2; cases (ha.uniq hb).2; cases ls_uniq hl hl2
      exact (h.nolink e3).elim
  | subl hp ha e hl e1 ht ih ih2 =>
    refine Acc.intro _ fun q hq => ?_
    cases hq with
    | up hp2 => cases par_uniq hp hp2; exact ih
    | top hp2 _ => cases par_uniq hp hp2
    | sub hp2 hb e2 hl2 e3 =>
      cases par_uniq hp hp2; cases (ha.uniq hb).2; cases ls_uniq hl hl2
      rw [e1] at e3; cases e3
      exact ih2
theorem hr_or {Us : List Str} (T : TabOk Us tab) (h : Str) : (∃ w pl, Hr tab h w pl) ∨ ∃ t, getK tab (.inr h) = some (.tup [.str "link", .str t]) ∧ t ∈ Us := by
  cases e : getK tab (.inr h) with
  | none => exact .inl ⟨_, _, .no e⟩
  | some v =>
    rcases not_link (T.val h v e).2 with ⟨k, r, rfl, hk⟩ | ⟨t, rfl, ht⟩
    · exact .inl ⟨_, _, .pl e hk⟩
    · exact .inr ⟨t, rfl, ht⟩
theorem last_some {Us : List Str} (U : Uni Us) {p : Str} (hp : p ∈ Us) {a : Str} (P : Par p (some a)) : ∃ l, Last p l ∧ l.length ≤ 1000 := by
  obtain ⟨o, Q, _⟩ := U.pth p hp
  cases par_uniq P Q.up
  obtain ⟨r, l, _, hs, _, _, ll⟩ := Q.more a rfl
  exact ⟨l, ⟨⟨r, hs⟩, Q.ln⟩, ll⟩
theorem tr_of_acc {Us : List Str} (U : Uni Us) (T : TabOk Us tab) {p : Str} (h : Acc (NdR tab) p) : p ∈ Us → ∃ w pl, Tr tab p w pl := by
  induction h with
  | intro p _ ih =>
    intro hp
    obtain ⟨o, P, ha⟩ := U.pth p hp
    cases o with
    | none =>
      rcases hr_or T p with ⟨w, pl, h⟩ | ⟨t, e, ht⟩
      · exact ⟨_, _, .top0 P.up h⟩
      · obtain ⟨w, pl, h⟩ := ih t (.top P.up e) ht
        exact ⟨_, _, .topl P.up e h⟩
    | some a =>
      obtain ⟨w, pl, h⟩ := ih a (.up P.up) (ha a rfl)
      by_cases hw : w = "place"
      · subst hw
        rcases h.word with ⟨_, k, r, e, hk⟩ | ⟨q, _⟩
        · rcases not_fold (T.val pl _ e).2 with hv | hv
          · rw [hv] at e
            obtain ⟨l, hl, _⟩ := last_some U hp P.up
            rcases hr_or T (pl ++ "/" ++ l) with ⟨w, pl', h2⟩ | ⟨t, e2, ht⟩
            · exact ⟨_, _, .sub0 P.up h e hl h2⟩
            · obtain ⟨w, pl', h2⟩ := ih t (.sub P.up h e hl e2) ht
              exact ⟨_, _, .subl P.up h e hl e2 h2⟩
          · exact ⟨_, _, .upm P.up h e hv⟩
        · exact absurd q (by decide)
      · exact ⟨_, _, .upw P.up h hw⟩
/-! ### a chain of needs -/
inductive Ch (tab : Tab) : Str → Str → Prop
  | refl (x : Str) : Ch tab x x
  | step {x y z : Str} : Ch tab x y → Nd tab y z → Ch tab x z
theorem Ch.acc {x y : Str} (c : Ch tab x y) : Acc (NdR tab) x → Acc (NdR tab) y := by
  induction c with
  | refl => exact id
  | step _ n ih => exact fun h => (ih h).inv n
theorem Ch.cons {x y z : Str} (n : Nd tab x y) (c : Ch tab y z) : Ch tab x z := by
  induction c with
  | refl => exact .step (.refl _) n
  | step _ m ih => exact .step ih m
theorem Ch.first {x y : Str} (c : Ch tab x y) : x = y ∨ ∃ z, Nd tab x z ∧ Ch tab z y := by
  induction c with
  | refl => exact .inl rfl
  | step _ n ih =>
    rcases ih with rfl | ⟨z, m, c⟩
    · exact .inr ⟨_, n, .refl _⟩
    · exact .inr ⟨z, m, .step c n⟩
theorem no_cycle {x : Str} (h : Acc (NdR tab) x) : ∀ y, Nd tab x y → Ch tab y x → False := by
  induction h with
  | intro x _ ih =>
    intro y n c
    rcases c.first with rfl | ⟨z, m, c2⟩
    · exact ih y n y n (.refl _)
    · exact ih y n z m (.step c2 n)
/-- what is known while paths S are being worked out -/
def Good (tab K : Tab) (S : Str → Prop) : Prop := ∀ (x w pl : Str), getK K (.inr x) = some (tx w pl) → Tr tab x w pl ∨ (w = "round" ∧ pl = "" ∧ (S x ∨ ¬ Acc (NdR tab) x))
theorem Good.mono {K : Tab} {S S' : Str → Prop} (h : Good tab K S) (i : ∀ x, S x → S' x) : Good tab K S' := fun x w pl e => by
  rcases h x w pl e with q | ⟨a, b, c⟩
  · exact .inl q
  · exact .inr ⟨a, b, c.imp (i x) id⟩
theorem tx_inj {w pl w' pl' : Str} (h : tx w pl = tx w' pl') : w = w' ∧ pl = pl' := by
  unfold tx at h
  cases h
  exact ⟨rfl, rfl⟩
/-- a need that can't be told: the path itself is round -/
theorem bad_need {S : Str → Prop} {p q : Str} (n : Nd tab p q) (c : ∀ x, S x → Ch tab x p) (h : S q ∨ ¬ Acc (NdR tab) q) : ¬ Acc (NdR tab) p := fun a => by
  rcases h with h | h
  · exact no_cycle a q n (c q h)
  · exact h (a.inv n)
theorem wo_true {K : Tab} {S : Str → Prop} {p w pl : Str} (G : Good tab K S) (c : ∀ x, S x → Ch tab x p) (h : Wo tab K p (.done w pl)) : Tr tab p w pl ∨ (w = "round" ∧ pl = "" ∧ ¬ Acc (NdR tab) p) := by
  cases h with
  | upw hp e hw =>
    rcases G _ _ _ e with q | ⟨h1, _, h2⟩
    · exact .inl (.upw hp q hw)
    · exact .inr ⟨h1, rfl, bad_need (.up hp) c h2⟩
  | upm hp e e2 ne =>
    rcases G _ _ _ e with q | ⟨h1, _, h2⟩
    · exact .inl (.upm hp q e2 ne)
    · exact absurd h1 (by decide)
  | top hp f =>
    cases f with
    | no e => exact .inl (.top0 hp (.no e))
    | pl e hk => exact .inl (.top0 hp (.pl e hk))
    | lk1 e e2 =>
      rcases G _ _ _ e2 with q | ⟨h1, h3, h2⟩
      · exact .inl (.topl hp e q)
      · exact .inr ⟨h1, h3, bad_need (.top hp e) c h2⟩
  | sub hp e e2 hl _ _ f =>
    rcases G _ _ _ e with q | ⟨h1, _, h2⟩
    · cases f with
      | no e => exact .inl (.sub0 hp q e2 hl (.no e))
      | pl e hk => exact .inl (.sub0 hp q e2 hl (.pl e hk))
      | lk1 e3 e4 =>
        rcases G _ _ _ e4 with q2 | ⟨h1, h3, h2⟩
        · exact .inl (.subl hp q e2 hl e3 q2)
        · exact .inr ⟨h1, h3, bad_need (.sub hp q e2 hl e3) c h2⟩
    · exact absurd h1 (by decide)
theorem wo_need {K : Tab} {S : Str → Prop} {p q : Str} (G : Good tab K S) (h : Wo tab K p (.need q)) : Nd tab p q := by
  cases h with
  | up hp _ => exact .up hp
  | top hp f =>
    cases f with
    | lk0 e _ => exact .top hp e
  | sub hp e e2 hl _ _ f =>
    rcases G _ _ _ e with q | ⟨h1, _, h2⟩
    · cases f with
      | lk0 e3 _ => exact .sub hp q e2 hl e3
    · exact absurd h1 (by decide)
theorem ev_true {n : Nat} {K K' : Tab} {p w pl : Str} (h : Ev tab n K p w pl K') : ∀ S : Str → Prop, Good tab K S → S p → (∀ x, S x → Ch tab x p) → Good tab K' (fun x => S x ∧ x ≠ p) ∧ (Tr tab p w pl ∨ (w = "round" ∧ pl = "" ∧ ¬ Acc (NdR tab) p)) := by
  induction h with
  | @stop K p w pl h hw hK =>
    intro S G hp c
    have t := wo_true G c h
    refine ⟨fun x w' pl' e => ?_, t⟩
    rw [getK_putS] at e
    by_cases hx : p = x
    · rw [if_pos hx] at e
      have e := Option.some.inj e
      obtain ⟨rfl, rfl⟩ := tx_inj e
      subst hx
      rcases t with t | ⟨a, b, d⟩
      · exact .inl t
      · exact .inr ⟨a, b, .inr d⟩
    · rw [if_neg hx] at e
      rcases G x w' pl' e with q | ⟨a, b, d⟩
      · exact .inl q
      · exact .inr ⟨a, b, d.imp (fun z => ⟨z, Ne.symm hx⟩) id⟩
  | @need K K1 K2 p q w1 pl1 w pl n m h hK _ _ ih1 ih2 =>
    intro S G hp c
    have nd := wo_need G h
    have G1 : Good tab (putD K (.str q) (tx "round" "")) (fun x => S x ∨ x = q) := fun x w' pl' e => by
      rw [getK_putS] at e
      by_cases hx : q = x
      · rw [if_pos hx] at e
        have e := Option.some.inj e
        obtain ⟨rfl, rfl⟩ := tx_inj e
        exact .inr ⟨rfl, rfl, .inl (.inr hx.symm)⟩
      · rw [if_neg hx] at e
        exact (G.mono (S' := fun x => S x ∨ x = q) fun x h => .inl h) x w' pl' e
    have r1 := (ih1 (fun x => S x ∨ x = q) G1 (.inr rfl) fun x hx => by
      rcases hx with hx | rfl
      · exact .step (c x hx) nd
      · exact .refl _).1
    exact ih2 S (r1.mono fun x ⟨a, b⟩ => a.resolve_right b) hp c
theorem k0_true {n : Nat} {K' : Tab} {p w pl : Str} (h : Ev tab n (k0 p) p w pl K') : Tr tab p w pl ∨ (w = "round" ∧ pl = "" ∧ ¬ Acc (NdR tab) p) := by
  refine (ev_true h (fun x => x = p) (fun x w' pl' e => ?_) rfl fun x hx => by rw [hx]; exact .refl _).2
  unfold k0 at e
  rw [getK_cons] at e
  by_cases hx : keyOf (.str p) = some (.inr x)
  · rw [if_pos hx] at e
    have e := Option.some.inj e
    obtain ⟨rfl, rfl⟩ := tx_inj e
    have : p = x := by
      have := Option.some.inj hx
      exact Sum.inr.inj this
    exact .inr ⟨rfl, rfl, .inl this.symm⟩
  · rw [if_neg hx] at e
    cases e
end
end LW

namespace LW
open PySem DL
/-! ### answers and needs of the names -/
theorem s16_us : ∀ t ∈ S16, t ∈ Us := fun t h => List.mem_append_left _ h
theorem s13_us : ∀ t ∈ S13, t ∈ Us := fun t h => List.mem_append_left _ (List.mem_append_left _ h)
theorem us_len : Us.length = 18 := by decide +kernel
section
variable {tab : Tab}
theorem ans (T : TabOk Us tab) {p : Str} (hp : p ∈ Us) : ∃ w pl, F_answer [.fz (.dct tab), .fz (.str p)] = .ok false (tx w pl) [] ∧ (Tr tab p w pl ∨ (w = "round" ∧ pl = "" ∧ ¬ Acc (NdR tab) p)) := by
  have G : GoodK tab (k0 p) := ⟨fun x v e => by
    unfold k0 at e
    rw [getK_cons] at e
    by_cases hx : keyOf (.str p) = some (.inr x)
    · rw [if_pos hx] at e; cases e; exact ⟨_, _, rfl, by decide, fun q => absurd q (by decide)⟩
    · rw [if_neg hx] at e; cases e⟩
  have hm : miss Us (k0 p) ≤ 18 := by
    have := List.countP_le_length (p := fun u => (getK (k0 p) (.inr u)).isNone) (l := Us)
    rw [us_len] at this
    exact this
  obtain ⟨n, w, pl, K', E, _, hl⟩ := ev_some us_uni T 50 (by omega) 18 (k0 p) p hm hp (by simp [k0, getK]) G (by have : (k0 p).length = 1 := rfl; omega)
  obtain ⟨o, P, _⟩ := us_pth hp
  exact ⟨w, pl, answer_run P.nm E (by omega), k0_true E⟩
theorem sp_run {p : Str} {l : List Str} (e : Txt.split p "/" = l) (h : p.length + 2 ≤ 1000) : sSplit (.str p) [.str "/"] = some (.ow (.lst (l.map .str))) := by
  have h1 : ((Str.ofString "/").length == 0) = false := by decide
  have h2 := sl1000 _ (Nat.le_trans h (by omega) : p.length + 2 ≤ 5000)
  show (if ((Str.ofString "/").length == 0) = false ∧ p.length + 2 ≤ sizeLine then some (AV.ow (.lst ((Txt.split p "/").map .str))) else none) = _
  rw [if_pos ⟨h1, h2⟩, e]
@[simp] theorem ix_t0' (k : Str) (r : List D) : ixD (.tup (.str k :: r)) (.int 0) = some (.fz (.str k)) := ix_t0 _ _
/-- the end of needs -/
theorem nd_end (T : TabOk Us tab) (h : Str) (L : List Str) (hL : L.length ≤ 1) {x1 x2 x5 x6 x7 : Sl} :
    (∃ t, getK tab (.inr h) = some (.tup [.str "link", .str t]) ∧ t ∈ Us ∧ (mSeq s_law_needs_9 s_law_needs_11) [.fz (.dct tab), x1, x2, .fz (.str h), .ow (.lst (L.map .str)), x5, x6, x7] = .ok (.rt (.sl 4)) [.fz (.dct tab), x1, x2, .fz (.str h), .ow (.lst ((L ++ [t]).map .str)), x5, x6, x7]) ∨
    ((∀ t, getK tab (.inr h) ≠ some (.tup [.str "link", .str t])) ∧ (mSeq s_law_needs_9 s_law_needs_11) [.fz (.dct tab), x1, x2, .fz (.str h), .ow (.lst (L.map .str)), x5, x6, x7] = .ok (.rt (.sl 4)) [.fz (.dct tab), x1, x2, .fz (.str h), .ow (.lst (L.map .str)), x5, x6, x7]) := by
  rcases hr_or T h with ⟨w, pl, hr⟩ | ⟨t, e, ht⟩
  · refine .inr ⟨fun t e => hr.nolink e, ?_⟩
    cases hr with
    | no e => simp [s_law_needs_9, s_law_needs_10, s_law_needs_11, e]
    | pl e hk => simp [s_law_needs_9, s_law_needs_10, s_law_needs_11, e, hk]
  · refine .inl ⟨t, e, ht, ?_⟩
    have hz : L.length < sizeLine := lt_line _ (by omega)
    simp [s_law_needs_9, s_law_needs_10, s_law_needs_11, e, hz]
theorem needs_run (T : TabOk Us tab) {p : Str} (hp : p ∈ Us) : ∃ L : List Str, F_law_needs [.fz (.dct tab), .fz (.str p)] = .ok true (.lst (L.map .str)) [] ∧ (∀ q ∈ L, q ∈ Us) ∧ L.length ≤ 2 ∧ ∀ q, q ∈ L ↔ Nd tab p q := by
  obtain ⟨o, P, ha⟩ := us_pth hp
  have fin : ∀ (L : List Str) (ρ' : DL.Env), φ_law_needs [.fz (.dct tab), .fz (.str p), .un, .un, .un, .un, .un, .un] = .ok (.rt (.sl 4)) ρ' → ρ'[4]? = some (.ow (.lst (L.map .str))) → F_law_needs [.fz (.dct tab), .fz (.str p)] = .ok true (.lst (L.map .str)) [] := fun L ρ' e e4 => by
    simp [F_law_needs, runB, e, e4, bosF_no]
  have h1 : ∀ l, Txt.split p "/" = l → s_law_needs_1 [.fz (.dct tab), .fz (.str p), .un, .un, .un, .un, .un, .un] = .ok .nx [.fz (.dct tab), .fz (.str p), .ow (.lst (l.map .str)), .fz (.str p), .ow (.lst []), .un, .un, .un] := fun l e => by
    simp [s_law_needs_1, sp_run e P.ln, sl_line 0 (by omega)]
  cases o with
  | none =>
    obtain ⟨l, hl⟩ := P.one rfl
    have h2 : s_law_needs_2 [.fz (.dct tab), .fz (.str p), .ow (.lst ([l].map .str)), .fz (.str p), .ow (.lst []), .un, .un, .un] = .ok .nx [.fz (.dct tab), .fz (.str p), .ow (.lst ([l].map .str)), .fz (.str p), .ow (.lst []), .un, .un, .un] := by
      simp [s_law_needs_2]
    rcases nd_end T p [] (by simp) (x1 := .fz (.str p)) (x2 := .ow (.lst ([l].map .str))) (x5 := .un) (x6 := .un) (x7 := .un) with ⟨t, e, ht, q⟩ | ⟨hn, q⟩
    · refine ⟨[t], fin [t] _ ((seq_nx (h1 _ hl)).trans ((seq_nx h2).trans q)) rfl, fun q hq => by rw [List.mem_singleton.mp hq]; exact ht, by simp, fun q => ⟨fun hq => by rw [List.mem_singleton.mp hq]; exact .top P.up e, fun hq => ?_⟩⟩
      cases hq with
      | up hp2 => cases par_uniq P.up hp2
      | top _ e2 => rw [e] at e2; cases e2; exact List.mem_singleton.mpr rfl
      | sub hp2 _ _ _ _ => cases par_uniq P.up hp2
    · refine ⟨[], fin [] _ ((seq_nx (h1 _ hl)).trans ((seq_nx h2).trans q)) rfl, fun q hq => (by cases hq), by simp, fun q => ⟨fun hq => (by cases hq), fun hq => ?_⟩⟩
      cases hq with
      | up hp2 => cases par_uniq P.up hp2
      | top _ e2 => exact (hn _ e2).elim
      | sub hp2 _ _ _ _ => cases par_uniq P.up hp2
  | some a =>
    obtain ⟨r, l, hr, hsp, hj, hz, ll⟩ := P.more a rfl
    have h1' := h1 _ hsp
    rw [List.map_append] at h1'
    have hau := (ha a rfl).1
    obtain ⟨w, pl, ea, tr⟩ := ans T hau
    have hj2 := join_run hz
    rw [hj] at hj2
    have hlast : Last p l := ⟨⟨r, hsp⟩, P.ln⟩
    have hc : mTest (mOp opGt (mCall fLen (mCons (mVar 2) mNil)) (mC (.int 1))) [.fz (.dct tab), .fz (.str p), .ow (.lst (r.map .str ++ [l].map .str)), .fz (.str p), .ow (.lst []), .un, .un, .un] = .ok true [.fz (.dct tab), .fz (.str p), .ow (.lst (r.map .str ++ [l].map .str)), .fz (.str p), .ow (.lst []), .un, .un, .un] := by
      have : 0 < r.length := List.length_pos_iff.mpr hr
      simp
      omega
    have h3 : s_law_needs_3 [.fz (.dct tab), .fz (.str p), .ow (.lst (r.map .str ++ [l].map .str)), .fz (.str p), .ow (.lst []), .un, .un, .un] = .ok .nx [.fz (.dct tab), .fz (.str p), .fz (.lst (r.map .str ++ [l].map .str)), .fz (.str p), .ow (.lst []), .fz (.str a), .un, .un] := by
      simp [s_law_needs_3, hj2]
    have h4 : s_law_needs_4 [.fz (.dct tab), .fz (.str p), .fz (.lst (r.map .str ++ [l].map .str)), .fz (.str p), .ow (.lst []), .fz (.str a), .un, .un] = .ok .nx [.fz (.dct tab), .fz (.str p), .fz (.lst (r.map .str ++ [l].map .str)), .fz (.str p), .ow (.lst ([a].map .str)), .fz (.str a), .un, .un] := by
      simp [s_law_needs_4, lt_line 0 (by omega)]
    have h5 : s_law_needs_5 [.fz (.dct tab), .fz (.str p), .fz (.lst (r.map .str ++ [l].map .str)), .fz (.str p), .ow (.lst ([a].map .str)), .fz (.str a), .un, .un] = .ok .nx [.fz (.dct tab), .fz (.str p), .fz (.lst (r.map .str ++ [l].map .str)), .fz (.str p), .ow (.lst ([a].map .str)), .fz (.str a), .fz (.str w), .fz (.str pl)] := by
      simp [tx] at ea
      simp [s_law_needs_5, ea]
    -- the first test
    have stop : s_law_needs_6 [.fz (.dct tab), .fz (.str p), .fz (.lst (r.map .str ++ [l].map .str)), .fz (.str p), .ow (.lst ([a].map .str)), .fz (.str a), .fz (.str w), .fz (.str pl)] = .ok (.rt (.sl 4)) [.fz (.dct tab), .fz (.str p), .fz (.lst (r.map .str ++ [l].map .str)), .fz (.str p), .ow (.lst ([a].map .str)), .fz (.str a), .fz (.str w), .fz (.str pl)] →
        (∀ pl', Tr tab a "place" pl' → getK tab (.inr pl') ≠ some fold) →
        ∃ L : List Str, F_law_needs [.fz (.dct tab), .fz (.str p)] = .ok true (.lst (L.map .str)) [] ∧ (∀ q ∈ L, q ∈ Us) ∧ L.length ≤ 2 ∧ ∀ q, q ∈ L ↔ Nd tab p q := fun e6 hn => by
      have h2 : s_law_needs_2 [.fz (.dct tab), .fz (.str p), .ow (.lst (r.map .str ++ [l].map .str)), .fz (.str p), .ow (.lst []), .un, .un, .un] = .ok (.rt (.sl 4)) [.fz (.dct tab), .fz (.str p), .fz (.lst (r.map .str ++ [l].map .str)), .fz (.str p), .ow (.lst ([a].map .str)), .fz (.str a), .fz (.str w), .fz (.str pl)] :=
        (if_t hc).trans ((seq_nx h3).trans ((seq_nx h4).trans ((seq_nx h5).trans (seq_rt e6))))
      refine ⟨[a], fin [a] _ ((seq_nx h1').trans (seq_rt h2)) rfl, fun q hq => by rw [List.mem_singleton.mp hq]; exact hau, by simp, fun q => ⟨fun hq => by rw [List.mem_singleton.mp hq]; exact .up P.up, fun hq => ?_⟩⟩
      cases hq with
      | up hp2 => cases par_uniq P.up hp2; exact List.mem_singleton.mpr rfl
      | top hp2 _ => cases par_uniq P.up hp2
      | sub hp2 hb e _ _ => cases par_uniq P.up hp2; exact (hn _ hb e).elim
    by_cases hw : w = "place"
    · subst hw
      rcases tr with tr | ⟨q, _⟩
      · rcases tr.word with ⟨_, k, rr, ek, hk⟩ | ⟨q, _⟩
        · rcases not_fold (T.val pl _ ek).2 with hv | hv
          · rw [hv] at ek
            have h6 : s_law_needs_6 [.fz (.dct tab), .fz (.str p), .fz (.lst (r.map .str ++ [l].map .str)), .fz (.str p), .ow (.lst ([a].map .str)), .fz (.str a), .fz (.str "place"), .fz (.str pl)] = .ok .nx [.fz (.dct tab), .fz (.str p), .fz (.lst (r.map .str ++ [l].map .str)), .fz (.str p), .ow (.lst ([a].map .str)), .fz (.str a), .fz (.str "place"), .fz (.str pl)] := by
              simp [s_law_needs_6, ek, opNe, eq_fold, sl_line 1 (by omega)]
            have hpl := (T.val pl _ ek).1
            have z4 : pl.length + (Str.ofString "/").length ≤ sizeLine := sl1000 _ (by have : (Str.ofString "/").length = 1 := rfl; omega)
            have z5 : (pl ++ "/" : Str).length + l.length ≤ sizeLine := sl1000 _ (by rw [str_len_append]; have : (Str.ofString "/").length = 1 := rfl; omega)
            have h8 : s_law_needs_8 [.fz (.dct tab), .fz (.str p), .fz (.lst (r.map .str ++ [l].map .str)), .fz (.str p), .ow (.lst ([a].map .str)), .fz (.str a), .fz (.str "place"), .fz (.str pl)] = .ok .nx [.fz (.dct tab), .fz (.str p), .fz (.lst (r.map .str ++ [l].map .str)), .fz (.str (pl ++ "/" ++ l)), .ow (.lst ([a].map .str)), .fz (.str a), .fz (.str "place"), .fz (.str pl)] := by
              simp [s_law_needs_8, z4, z5]
            have h2 : s_law_needs_2 [.fz (.dct tab), .fz (.str p), .ow (.lst (r.map .str ++ [l].map .str)), .fz (.str p), .ow (.lst []), .un, .un, .un] = .ok .nx [.fz (.dct tab), .fz (.str p), .fz (.lst (r.map .str ++ [l].map .str)), .fz (.str (pl ++ "/" ++ l)), .ow (.lst ([a].map .str)), .fz (.str a), .fz (.str "place"), .fz (.str pl)] :=
              (if_t hc).trans ((seq_nx h3).trans ((seq_nx h4).trans ((seq_nx h5).trans ((seq_nx h6).trans h8))))
            rcases nd_end T (pl ++ "/" ++ l) [a] (by simp) (x1 := .fz (.str p)) (x2 := .fz (.lst (r.map .str ++ [l].map .str))) (x5 := .fz (.str a)) (x6 := .fz (.str "place")) (x7 := .fz (.str pl)) with ⟨t, e, ht, q⟩ | ⟨hn, q⟩
            · refine ⟨[a] ++ [t], fin ([a] ++ [t]) _ ((seq_nx h1').trans ((seq_nx h2).trans q)) rfl, fun q hq => ?_, by simp, fun q => ⟨fun hq => ?_, fun hq => ?_⟩⟩
              · rcases List.mem_append.mp hq with hq | hq
                · rw [List.mem_singleton.mp hq]; exact hau
                · rw [List.mem_singleton.mp hq]; exact ht
              · rcases List.mem_append.mp hq with hq | hq
                · rw [List.mem_singleton.mp hq]; exact .up P.up
                · rw [List.mem_singleton.mp hq]; exact .sub P.up tr ek hlast e
              · cases hq with
                | up hp2 => cases par_uniq P.up hp2; exact List.mem_append_left _ (List.mem_singleton.mpr rfl)
                | top hp2 _ => cases par_uniq P.up hp2
                | sub hp2 hb e2 hl2 e3 =>
                  cases par_uniq P.up hp2; cases (tr.uniq hb).2; cases ls_uniq hlast hl2
                  rw [e] at e3; cases e3
                  exact List.mem_append_right _ (List.mem_singleton.mpr rfl)
            · refine ⟨[a], fin [a] _ ((seq_nx h1').trans ((seq_nx h2).trans q)) rfl, fun q hq => by rw [List.mem_singleton.mp hq]; exact hau, by simp, fun q => ⟨fun hq => by rw [List.mem_singleton.mp hq]; exact .up P.up, fun hq => ?_⟩⟩
              cases hq with
              | up hp2 => cases par_uniq P.up hp2; exact List.mem_singleton.mpr rfl
              | top hp2 _ => cases par_uniq P.up hp2
              | sub hp2 hb e2 hl2 e3 =>
                cases par_uniq P.up hp2; cases (tr.uniq hb).2; cases ls_uniq hlast hl2
                exact (hn _ e3).elim
          · refine stop ?_ fun pl' hb e => ?_
            · simp [s_law_needs_6, s_law_needs_7, ek, opNe, hv, sl_line 1 (by omega)]
            · cases (tr.uniq hb).2
              rw [ek] at e
              exact absurd (Option.some.inj e) (fold_ne hv)
        · exact absurd q (by decide)
      · exact absurd q (by decide)
    · refine stop ?_ fun pl' hb e => ?_
      · simp [s_law_needs_6, s_law_needs_7, hw]
      · rcases tr with tr | ⟨_, _, na⟩
        · exact hw (tr.uniq hb).1
        · exact na hb.acc
end
end LW

namespace LW
open PySem DL
/-! ### all that a path needs -/
section
variable {tab : Tab}
def NdL (tab : Tab) (x : Str) (v : D) : Prop := ∃ L : List Str, v = .lst (L.map .str) ∧ (∀ q ∈ L, q ∈ Us) ∧ L.length ≤ 2 ∧ ∀ q, q ∈ L ↔ Nd tab x q
/-- the table of needs: sound -/
def NT (tab M : Tab) : Prop := ∀ pr ∈ M, ∃ x, pr.1 = .str x ∧ x ∈ Us ∧ NdL tab x pr.2
theorem NT.put {M : Tab} {s : Str} {v : D} (h : NT tab M) (hs : s ∈ Us) (hv : NdL tab s v) (hn : getK M (.inr s) = none) : NT tab (putD M (.str s) v) := by
  rw [putD_new (kk := .inr s) rfl hn]
  intro p hp
  rcases List.mem_append.mp hp with hp | hp
  · exact h p hp
  · rw [List.mem_singleton.mp hp]; exact ⟨s, rfl, hs, hv⟩
theorem NT.get {M : Tab} {x : Str} {v : D} (h : NT tab M) (e : getK M (.inr x) = some v) : x ∈ Us ∧ NdL tab x v := by
  obtain ⟨p, hp, h1, h2⟩ := getK_mem e
  obtain ⟨y, hy, hu, hl⟩ := h p hp
  rw [hy] at h1
  have : y = x := Sum.inr.inj (Option.some.inj h1)
  subst this
  rw [h2] at hl
  exact ⟨hu, hl⟩
/-- its keys, each once -/
def KeyS (M : Tab) (ks : List Str) : Prop := M.map (·.1) = ks.map D.str ∧ ks.Nodup
def Has (M : Tab) (x : Str) : Prop := (getK M (.inr x)).isSome = true
theorem keyS_has : ∀ {M : Tab} {ks : List Str}, M.map (·.1) = ks.map D.str → ∀ x, x ∈ ks ↔ Has M x
  | [], [], _, x => by simp [Has, getK]
  | [], _ :: _, h, _ => by cases h
  | _ :: _, [], h, _ => by cases h
  | (k, v) :: M, y :: ks, h, x => by
    rw [List.map_cons, List.map_cons] at h
    injection h with h1 h2
    have h1 : k = .str y := h1
    subst h1
    have ih := keyS_has h2 x
    unfold Has
    rw [getK_cons, List.mem_cons, keyOf_str]
    by_cases e : x = y
    · subst e; simp
    · have e2 : ¬ (some (Sum.inr y) : Option L2.Key) = some (.inr x) := fun q => e (Sum.inr.inj (Option.some.inj q)).symm
      rw [if_neg e2]
      exact ⟨fun q => ih.mp (q.resolve_left e), fun q => .inr (ih.mpr q)⟩
theorem KeyS.put {M : Tab} {ks : List Str} {q : Str} {v : D} (h : KeyS M ks) (hn : getK M (.inr q) = none) : KeyS (putD M (.str q) v) (ks ++ [q]) := by
  rw [putD_new (kk := .inr q) rfl hn]
  refine ⟨by rw [List.map_append, List.map_append, h.1]; rfl, ?_⟩
  have hq : q ∉ ks := fun m => by
    have := (keyS_has h.1 q).mp m
    unfold Has at this
    rw [hn] at this; cases this
  refine List.nodup_append.mpr ⟨h.2, List.pairwise_singleton _ _, fun a ha b hb => ?_⟩
  rw [List.mem_singleton.mp hb]
  exact fun e => hq (e ▸ ha)
structure XI (tab : Tab) (p : Str) (n : Nat) (M : Tab) (W : List Str) : Prop where
  nt : NT tab M
  wu : ∀ q ∈ W, q ∈ Us
  st : Has M p ∨ p ∈ W
  cl : ∀ x q, Has M x → Nd tab x q → Has M q ∨ q ∈ W
  sz : M.length + miss Us M ≤ 18
  ks : ∃ ks, KeyS M ks
  ms : W = [] ∨ W.length + 3 * miss Us M + n ≤ 55
def X9 (tab : Tab) (p : Str) (M : Tab) (W : List Str) (x4 x5 : Sl) : DL.Env := [.fz (.dct tab), .fz (.str p), .ow (.dct M), .ow (.lst (W.map .str)), x4, x5, .un, .un, .un]
theorem ix_lastM (W : List Str) (q : Str) : (W ++ [q]).map D.str = W.map D.str ++ [.str q] := by simp
theorem x_turn (T : TabOk Us tab) {p : Str} {n : Nat} {M : Tab} {W : List Str} (h : XI tab p n M W) {x4 x5 : Sl} (h5 : isBo x5 = false) : ∃ M' W' x5', s_law_is_round_3 (X9 tab p M W x4 x5) = .ok .nx (X9 tab p M' W' x4 x5') ∧ XI tab p (n + 1) M' W' ∧ isBo x5' = false := by
  rcases List.eq_nil_or_concat W with rfl | ⟨W1, q, rfl⟩
  · refine ⟨M, [], x5, ?_, ⟨h.nt, h.wu, h.st, h.cl, h.sz, h.ks, .inl rfl⟩, h5⟩
    simp [s_law_is_round_3, X9, sl_line 0 (by omega)]
  · have hq : q ∈ Us := h.wu q (by simp)
    have hms : W1.length + 1 + 3 * miss Us M + n ≤ 55 := by
      rcases h.ms with e | e
      · simp at e
      · simpa using e
    have e4 : s_law_is_round_4 (X9 tab p M (W1.concat q) x4 x5) = .ok .nx (X9 tab p M W1 x4 (.fz (.str q))) := by
      simp [s_law_is_round_4, X9, h5]
    have ht : mTest (mOp opNe (mVar 3) (mLst mNil)) (X9 tab p M (W1.concat q) x4 x5) = .ok true (X9 tab p M (W1.concat q) x4 x5) := by
      simp [X9, sl_line 0 (by omega)]
    have sub : ∀ y, y ∈ W1 → y ∈ W1.concat q := fun y hy => by simp [hy]
    have inW : ∀ y, y ∈ W1.concat q → y = q ∨ y ∈ W1 := fun y hy => by
      rw [List.concat_eq_append] at hy
      rcases List.mem_append.mp hy with a | a
      · exact .inr a
      · exact .inl (List.mem_singleton.mp a)
    cases e : getK M (.inr q) with
    | some v =>
      have hh : Has M q := by unfold Has; rw [e]; rfl
      refine ⟨M, W1, .fz (.str q), ?_, ⟨h.nt, fun y hy => h.wu y (sub y hy), ?_, fun x y hx hn => ?_, h.sz, h.ks, .inr (by omega)⟩, rfl⟩
      · refine (if_t ht).trans ((seq_nx e4).trans ?_)
        simp [s_law_is_round_5, X9, e]
      · rcases h.st with a | a
        · exact .inl a
        · rcases inW _ a with rfl | a
          · exact .inl hh
          · exact .inr a
      · rcases h.cl x y hx hn with a | a
        · exact .inl a
        · rcases inW _ a with rfl | a
          · exact .inl hh
          · exact .inr a
    | none =>
      obtain ⟨L, eL, hLu, hL2, hL⟩ := needs_run T hq
      have hmiss := miss_put (v := .lst (L.map .str)) hq e
      have hlen : (putD M (.str q) (.lst (L.map .str))).length = M.length + 1 := by
        rw [len_put (kk := .inr q) rfl, if_neg (by rw [e]; exact Bool.false_ne_true)]
      have has : ∀ y, Has (putD M (.str q) (.lst (L.map .str))) y ↔ q = y ∨ Has M y := fun y => by
        unfold Has
        rw [getK_putS]
        by_cases hy : q = y
        · rw [if_pos hy]; simp [hy]
        · rw [if_neg hy]; simp [hy]
      have hsz := h.sz
      refine ⟨putD M (.str q) (.lst (L.map .str)), W1 ++ L, .fz (.str q), ?_, ⟨h.nt.put hq ⟨L, rfl, hLu, hL2, hL⟩ e, fun y hy => ?_, ?_, fun x y hx hn => ?_, by omega, ⟨_, h.ks.choose_spec.put e⟩, .inr (by rw [List.length_append]; omega)⟩, rfl⟩
      · refine (if_t ht).trans ((seq_nx e4).trans ?_)
        have hz : M.length < sizeLine := lt_line _ (by omega)
        have hz2 : W1.length + L.length ≤ sizeLine := sl_line _ (by omega)
        have e6 : s_law_is_round_6 (X9 tab p M W1 x4 (.fz (.str q))) = .ok .nx (X9 tab p (putD M (.str q) (.lst (L.map .str))) W1 x4 (.fz (.str q))) := by
          simp [s_law_is_round_6, X9, eL, hz]
        have ea : opAdd (.lst (W1.map .str)) (.lst (L.map .str)) = some (.ow (.lst ((W1 ++ L).map .str))) := by
          show (if (W1.map D.str).length + (L.map D.str).length ≤ sizeLine then some (AV.ow (.lst (W1.map D.str ++ L.map D.str))) else none) = _
          rw [List.length_map, List.length_map, if_pos hz2, List.map_append]
        have e7 : s_law_is_round_7 (X9 tab p (putD M (.str q) (.lst (L.map .str))) W1 x4 (.fz (.str q))) = .ok .nx (X9 tab p (putD M (.str q) (.lst (L.map .str))) (W1 ++ L) x4 (.fz (.str q))) := by
          simp [s_law_is_round_7, X9, ea]
        have t5 : mTest (mOp opNotIn (mVar 5) (mVar 2)) (X9 tab p M W1 x4 (.fz (.str q))) = .ok true (X9 tab p M W1 x4 (.fz (.str q))) := by
          simp [X9, e]
        exact (if_t t5).trans ((seq_nx e6).trans e7)
      · rcases List.mem_append.mp hy with a | a
        · exact h.wu y (sub y a)
        · exact hLu y a
      · rcases h.st with a | a
        · exact .inl ((has p).mpr (.inr a))
        · rcases inW _ a with rfl | a
          · exact .inl ((has p).mpr (.inl rfl))
          · exact .inr (List.mem_append_left _ a)
      · rcases (has x).mp hx with rfl | hx
        · exact .inr (List.mem_append_right _ ((hL y).mpr hn))
        · rcases h.cl x y hx hn with a | a
          · exact .inl ((has y).mpr (.inr a))
          · rcases inW _ a with rfl | a
            · exact .inl ((has y).mpr (.inl rfl))
            · exact .inr (List.mem_append_left _ a)
theorem explore (T : TabOk Us tab) {p : Str} (hp : p ∈ Us) : ∃ M x4 x5, s_law_is_round_2 (X9 tab p [] [p] .un .un) = .ok .nx (X9 tab p M [] x4 x5) ∧ isBo x4 = false ∧ isBo x5 = false ∧ NT tab M ∧ Has M p ∧ (∀ x q, Has M x → Nd tab x q → Has M q) ∧ M.length ≤ 18 ∧ ∃ ks, KeyS M ks := by
  have hit : mIt range1 (mCons (mC (.int 400)) mNil) (X9 tab p [] [p] .un .un) = .ok (rangeD 0 400) (X9 tab p [] [p] .un .un) := by
    simp [mIt, range1]
  have hm0 : miss Us [] ≤ 18 := by
    have := List.countP_le_length (p := fun u => (getK ([] : Tab) (.inr u)).isNone) (l := Us)
    rw [us_len] at this
    exact this
  obtain ⟨ρ', e, M, W, x4, x5, rfl, h4, h5, X⟩ := loop_ix (t := .nm 4) (body := s_law_is_round_3) (fun n ρ => ∃ M W x4 x5, ρ = X9 tab p M W x4 x5 ∧ isBo x4 = false ∧ isBo x5 = false ∧ XI tab p n M W) (rangeD 0 400) (X9 tab p [] [p] .un .un)
    ⟨[], [p], .un, .un, rfl, rfl, rfl, ⟨fun pr h => (by cases h), fun q hq => by rw [List.mem_singleton.mp hq]; exact hp, .inr (List.mem_singleton.mpr rfl), fun x q hx _ => (by cases hx), by simpa using hm0, ⟨[], rfl, List.Pairwise.nil⟩, .inr (by simp; omega)⟩⟩
    (fun i d hd ρ ⟨M, W, x4, x5, hρ, h4, h5, X⟩ => by
      subst hρ
      obtain ⟨M', W', x5', e, X', h5'⟩ := x_turn T X (x4 := .fz d) h5
      exact ⟨X9 tab p M W (.fz d) x5, X9 tab p M' W' (.fz d) x5', by simp [X9, h4], .inl e, M', W', .fz d, x5', rfl, rfl, h5', X'⟩)
  have hlen : (rangeD 0 400).length = 400 := by simp [rangeD]
  rw [hlen] at X
  have hW : W = [] := by
    rcases X.ms with a | a
    · exact a
    · omega
  subst hW
  refine ⟨M, x4, x5, (for_run hit).trans e, h4, h5, X.nt, X.st.resolve_right (by simp), fun x q hx hn => (X.cl x q hx hn).resolve_right (by simp), by have := X.sz; omega, X.ks⟩
end
end LW

namespace LW
open PySem DL
/-! ### what is told round after round -/
section
variable {tab : Tab}
theorem getK_drop {q x : Str} : ∀ {M : Tab}, getK (dropD M (.str q)) (.inr x) = if q = x then none else getK M (.inr x)
  | [] => by
    show none = _
    split <;> rfl
  | (k, v) :: M => by
    have ih := getK_drop (q := q) (x := x) (M := M)
    unfold dropD at ih ⊢
    rw [List.filter_cons]
    by_cases e : keyOf k = keyOf (.str q)
    · rw [if_neg (by simp [e]), ih, getK_cons]
      split
      · rfl
      · rename_i hx
        rw [e, keyOf_str, if_neg (fun z => hx (Sum.inr.inj (Option.some.inj z)))]
    · rw [if_pos (by simp at e; simp [e]), getK_cons, getK_cons, ih]
      by_cases h : keyOf k = some (.inr x)
      · rw [if_pos h, if_pos h]
        rw [keyOf_str] at e
        rw [if_neg (fun z => e (by rw [h, z]))]
      · rw [if_neg h, if_neg h]
theorem has_drop {q x : Str} {M : Tab} : Has (dropD M (.str q)) x ↔ q ≠ x ∧ Has M x := by
  unfold Has
  rw [getK_drop]
  by_cases h : q = x
  · rw [if_pos h]; simp [h]
  · rw [if_neg h]; simp [h]
theorem drop_le {q : Str} {M : Tab} : (dropD M (.str q)).length ≤ M.length := List.length_filter_le _ _
theorem drop_lt {q : Str} : ∀ {M : Tab}, Has M q → (dropD M (.str q)).length < M.length
  | [], h => by cases h
  | (k, v) :: M, h => by
    unfold Has at h
    rw [getK_cons] at h
    unfold dropD
    rw [List.filter_cons]
    by_cases e : keyOf k = some (.inr q)
    · rw [if_neg (by rw [e, keyOf_str]; simp)]
      have : (M.filter fun p => decide (keyOf p.1 ≠ keyOf (.str q))).length ≤ M.length := List.length_filter_le _ _
      rw [List.length_cons]; omega
    · rw [if_neg e] at h
      rw [if_pos (by rw [keyOf_str]; simp [e]), List.length_cons, List.length_cons]
      have := drop_lt (M := M) h
      unfold dropD at this
      omega
theorem NT.drop {M : Tab} {q : Str} (h : NT tab M) : NT tab (dropD M (.str q)) := fun pr hp => h pr (List.mem_filter.mp hp).1
theorem KeyS.drop {q : Str} : ∀ {M : Tab} {ks : List Str}, KeyS M ks → KeyS (dropD M (.str q)) (ks.filter fun x => decide (x ≠ q))
  | [], [], h => h
  | [], _ :: _, h => by cases h.1
  | _ :: _, [], h => by cases h.1
  | (k, v) :: M, y :: ks, ⟨h, nd⟩ => by
    rw [List.map_cons, List.map_cons] at h
    injection h with h1 h2
    have h1 : k = .str y := h1
    subst h1
    have nd' := List.nodup_cons.mp nd
    have ih := KeyS.drop (q := q) ⟨h2, nd'.2⟩
    unfold dropD at ih ⊢
    rw [List.filter_cons, List.filter_cons]
    by_cases e : y = q
    · subst e
      rw [if_neg (by simp), if_neg (by simp)]
      exact ih
    · rw [if_pos (by simp [e]), if_pos (by simp [e])]
      refine ⟨by rw [List.map_cons, List.map_cons, ih.1], List.nodup_cons.mpr ⟨fun m => nd'.1 (List.mem_filter.mp m).1, ih.2⟩⟩
def Y9 (tab : Tab) (p : Str) (M : Tab) (x4 x5 x6 x7 : Sl) : DL.Env := [.fz (.dct tab), .fz (.str p), .ow (.dct M), .ow (.lst []), x4, x5, x6, x7, .un]
@[simp] theorem opEq_nil (l : List D) : opEq (.lst l) (.lst []) = some (.fz (.bl l.isEmpty)) := by
  unfold opEq eqD
  cases l with
  | nil => simp [eqL]
  | cons a r => simp
def dropAll (M : Tab) (l : List Str) : Tab := l.foldl (fun M q => dropD M (.str q)) M
theorem has_all {x : Str} : ∀ {l : List Str} {M : Tab}, Has (dropAll M l) x ↔ x ∉ l ∧ Has M x
  | [], M => by simp [dropAll]
  | q :: l, M => by
    have ih := has_all (x := x) (l := l) (M := dropD M (.str q))
    rw [has_drop] at ih
    show Has (dropAll (dropD M (.str q)) l) x ↔ _
    rw [ih, List.mem_cons]
    constructor
    · intro ⟨a, b, c⟩
      exact ⟨fun z => z.elim (fun z => b z.symm) a, c⟩
    · intro ⟨a, c⟩
      exact ⟨fun z => a (.inr z), fun z => a (.inl z.symm), c⟩
theorem pops {p : Str} {x4 x5 x6 : Sl} : ∀ (l : List Str) (M : Tab) (x7 : Sl), l.Nodup → (∀ q ∈ l, Has M q) → isBo x7 = false → ∃ x7', isBo x7' = false ∧ loopF (.nm 7) s_law_is_round_11 (l.map .str) (Y9 tab p M x4 x5 x6 x7) = .ok .nx (Y9 tab p (dropAll M l) x4 x5 x6 x7')
  | [], M, x7, _, _, h7 => ⟨x7, h7, rfl⟩
  | q :: l, M, x7, nd, hh, h7 => by
    have nd' := List.nodup_cons.mp nd
    have hq := hh q List.mem_cons_self
    obtain ⟨v, e⟩ := Option.isSome_iff_exists.mp hq
    obtain ⟨x7', h7', e2⟩ := pops (p := p) (x4 := x4) (x5 := x5) (x6 := x6) l (dropD M (.str q)) (.fz (.str q)) nd'.2 (fun y hy => has_drop.mpr ⟨fun z => nd'.1 (z ▸ hy), hh y (List.mem_cons_of_mem _ hy)⟩) rfl
    refine ⟨x7', h7', ?_⟩
    rw [List.map_cons, loop_cons (ρ1 := Y9 tab p M x4 x5 x6 (.fz (.str q))) (ρ2 := Y9 tab p (dropD M (.str q)) x4 x5 x6 (.fz (.str q))) (by simp [Y9, h7]) (.inl ?_)]
    · exact e2
    · have : dPop (.dct M) [.str q] = some (.dct (dropD M (.str q)), v) := by
        show (keyOf (.str q)).bind (fun kk => (getK M kk).map fun x => (D.dct (dropD M (.str q)), x)) = _
        rw [keyOf_str]
        show (getK M (.inr q)).map _ = _
        rw [e]; rfl
      simp [s_law_is_round_11, Y9, this]
/-- nothing that it needs is left -/
def clear (M : Tab) (x : Str) : Bool := match getK M (.inr x) with
  | some (.lst l) => l.all fun d => match d with
    | .str q => !(getK M (.inr q)).isSome
    | _ => false
  | _ => false
theorem clear_iff {M : Tab} (h : NT tab M) {x : Str} (hx : Has M x) : clear M x = true ↔ ∀ q, Nd tab x q → ¬ Has M q := by
  obtain ⟨v, e⟩ := Option.isSome_iff_exists.mp hx
  obtain ⟨_, L, rfl, _, _, hL⟩ := h.get e
  unfold clear
  rw [e]
  simp only [List.all_map, List.all_eq_true, Function.comp]
  constructor
  · intro h q hq
    have := h q ((hL q).mpr hq)
    intro hh
    unfold Has at hh
    simp [hh] at this
  · intro h q hq
    have := h q ((hL q).mp hq)
    unfold Has at this
    simpa using this
theorem sorted_keys {M : Tab} {ks : List Str} (h : KeyS M ks) (hl : M.length ≤ 18) : fSorted [.dct M] = some (.ow (.lst ((sortS ks).map .str))) := by
  have hk : ks.length = M.length := by
    have := congrArg List.length h.1
    simpa using this.symm
  show (sortFlat (M.map (·.1))).map _ = _
  unfold sortFlat
  rw [h.1, strsOf_map]
  show (if ks.length < 64 then _ else _ : Option (List D)).map _ = _
  rw [if_pos (by omega)]; rfl
theorem done_run {p : Str} {M : Tab} {ks : List Str} (nt : NT tab M) (hk : KeyS M ks) (hl : M.length ≤ 18) {x4 x5 x6 x7 : Sl} (h6 : isBo x6 = false) (h7 : isBo x7 = false) :
    s_law_is_round_9 (Y9 tab p M x4 x5 x6 x7) = .ok .nx (Y9 tab p M x4 x5 (.ow (.lst (((sortS ks).filter (clear M)).map .str))) (rsS x7)) := by
  have hit : mItems (mCall fSorted (mCons (mVar 2) mNil)) (Y9 tab p M x4 x5 x6 x7) = .ok ((sortS ks).map .str) (Y9 tab p M x4 x5 x6 x7) := by
    simp [mItems, Y9, sorted_keys hk hl, itemsOf]
  have hks : (sortS ks).length ≤ 18 := by
    rw [(sortS_perm ks).length_eq]
    have := congrArg List.length hk.1
    simp at this
    omega
  have c := comp_run (i := 7) (τ := mTest (mOp opEq (mComp (mItems (mOp ixD (mVar 2) (mVar 7))) [8] (.nm 8) (mTest (mOp opIn (mVar 8) (mVar 2))) (mVar 8)) (mLst mNil))) (φ := mVar 7) hit (s := x7) rfl h7 (fun d => match d with
    | .str x => if clear M x then some d else none
    | _ => none) (fun d hd => by
      obtain ⟨x, hx, rfl⟩ := List.mem_map.mp hd
      have hx : Has M x := (keyS_has hk.1 x).mp ((sortS_perm ks).mem_iff.mp hx)
      obtain ⟨v, e⟩ := Option.isSome_iff_exists.mp hx
      obtain ⟨_, L, rfl, _, hL2, hL⟩ := nt.get e
      have hit2 : mItems (mOp ixD (mVar 2) (mVar 7)) ((Y9 tab p M x4 x5 x6 x7).set 7 (.fz (.str x))) = .ok (L.map .str) (Y9 tab p M x4 x5 x6 (.fz (.str x))) := by
        simp [mItems, Y9, e, itemsOf]
      have c2 := comp_run (i := 8) (τ := mTest (mOp opIn (mVar 8) (mVar 2))) (φ := mVar 8) hit2 (s := .un) rfl rfl (fun d => match d with
        | .str q => if (getK M (.inr q)).isSome then some d else none
        | _ => none) (fun d hd => by
          obtain ⟨q, _, rfl⟩ := List.mem_map.mp hd
          refine ⟨fun z => ?_, fun y z => ?_⟩
          · dsimp only at z
            by_cases hs : (getK M (.inr q)).isSome = true
            · rw [if_pos hs] at z; cases z
            · simp [Y9]
              simpa using hs
          · dsimp only at z
            by_cases hs : (getK M (.inr q)).isSome = true
            · rw [if_pos hs] at z; cases z
              refine ⟨by simp [Y9, hs], .sl 8, by simp [Y9], by simp [Y9]⟩
            · rw [if_neg hs] at z; cases z) (by rw [List.length_map]; omega)
      have hemp : (List.filterMap (fun d => match d with
        | D.str q => if (getK M (.inr q)).isSome then some d else none
        | _ => none) (L.map .str)).isEmpty = clear M x := by
        have key : ∀ l : List Str, (List.filterMap (fun d => match d with
          | D.str q => if (getK M (.inr q)).isSome then some d else none
          | _ => none) (l.map .str)).isEmpty = (l.map D.str).all fun d => match d with
          | .str q => !(getK M (.inr q)).isSome
          | _ => false := fun l => by
          induction l with
          | nil => rfl
          | cons a r ih =>
            rw [List.map_cons, List.filterMap_cons, List.all_cons]
            cases hs : (getK M (.inr a)).isSome with
            | true => simp [hs]
            | false => simp [hs]; simpa using ih
        rw [key]
        unfold clear
        rw [e]
      have tst : mTest (mOp opEq (mComp (mItems (mOp ixD (mVar 2) (mVar 7))) [8] (.nm 8) (mTest (mOp opIn (mVar 8) (mVar 2))) (mVar 8)) (mLst mNil)) ((Y9 tab p M x4 x5 x6 x7).set 7 (.fz (.str x))) = .ok (clear M x) ((Y9 tab p M x4 x5 x6 x7).set 7 (.fz (.str x))) := by
        generalize List.filterMap (fun d => match d with
          | D.str q => if (getK M (.inr q)).isSome then some d else none
          | _ => none) (L.map .str) = l0 at c2 hemp
        simp only [mTest_app, mOp_app, bnd_appS, c2]
        simp [sl_line 0 (by omega), hemp, Y9]
      refine ⟨fun z => ?_, fun y z => ?_⟩
      · dsimp only at z
        rw [tst]
        cases hc : clear M x with
        | true => rw [hc] at z; cases z
        | false => rfl
      · dsimp only at z
        rw [tst]
        cases hc : clear M x with
        | false => rw [hc] at z; cases z
        | true =>
          rw [hc] at z; cases z
          exact ⟨rfl, .sl 7, by simp [Y9], by simp [Y9]⟩) (by rw [List.length_map]; omega)
  have hf : List.filterMap (fun d => match d with
    | D.str x => if clear M x then some d else none
    | _ => none) ((sortS ks).map .str) = ((sortS ks).filter (clear M)).map .str := by
    generalize sortS ks = l
    induction l with
    | nil => rfl
    | cons a r ih =>
      rw [List.map_cons, List.filterMap_cons, List.filter_cons]
      cases hs : clear M a with
      | true => simp [hs]; simpa using ih
      | false => simp [hs]; simpa using ih
  rw [hf] at c
  show mAsg 6 (mComp _ [7] _ _ _) _ = _
  rw [mAsg_app, bnd_ok c]
  simp [Y9, h6]
end
end LW

namespace LW
open PySem DL
section
variable {tab : Tab}
structure RI (tab : Tab) (M0 : Tab) (n i : Nat) (M : Tab) : Prop where
  nt : NT tab M
  ks : ∃ ks, KeyS M ks
  sz : M.length ≤ 18
  sub : ∀ x, Has M x → Has M0 x
  gone : ∀ x, Has M0 x → ¬ Has M x → Acc (NdR tab) x
  few : M.length + i ≤ n ∨ ∀ x, Has M x → ¬ Acc (NdR tab) x
theorem dropAll_le : ∀ {l : List Str} {M : Tab}, (dropAll M l).length ≤ M.length
  | [], M => Nat.le_refl _
  | q :: l, M => Nat.le_trans (dropAll_le (l := l) (M := dropD M (.str q))) drop_le
theorem dropAll_nt : ∀ {l : List Str} {M : Tab}, NT tab M → NT tab (dropAll M l)
  | [], M, h => h
  | q :: l, M, h => dropAll_nt (l := l) h.drop
theorem dropAll_ks : ∀ {l : List Str} {M : Tab}, (∃ ks, KeyS M ks) → ∃ ks, KeyS (dropAll M l) ks
  | [], M, h => h
  | q :: l, M, ⟨ks, h⟩ => dropAll_ks (l := l) ⟨_, h.drop⟩
theorem round_turn {p : Str} {M0 M : Tab} {n i : Nat} (cl : ∀ x q, Has M0 x → Nd tab x q → Has M0 q) (h : RI tab M0 n i M) {x4 x5 x6 x7 : Sl} (h6 : isBo x6 = false) (h7 : isBo x7 = false) :
    ∃ M' x6' x7', (mSeq s_law_is_round_9 s_law_is_round_10) (Y9 tab p M x4 x5 x6 x7) = .ok .nx (Y9 tab p M' x4 x5 x6' x7') ∧ RI tab M0 n (i + 1) M' ∧ isBo x6' = false ∧ isBo x7' = false := by
  obtain ⟨ks, hk⟩ := h.ks
  have e9 := done_run (p := p) h.nt hk h.sz (x4 := x4) (x5 := x5) h6 h7
  generalize hD : (sortS ks).filter (clear M) = D at e9
  have mD : ∀ x, x ∈ D ↔ Has M x ∧ ∀ q, Nd tab x q → ¬ Has M q := fun x => by
    rw [← hD, List.mem_filter]
    constructor
    · intro ⟨a, b⟩
      have hx := (keyS_has hk.1 x).mp ((sortS_perm ks).mem_iff.mp a)
      exact ⟨hx, (clear_iff h.nt hx).mp b⟩
    · intro ⟨a, b⟩
      exact ⟨(sortS_perm ks).mem_iff.mpr ((keyS_has hk.1 x).mpr a), (clear_iff h.nt a).mpr b⟩
  have ndD : D.Nodup := by
    rw [← hD]
    exact List.Pairwise.filter _ ((sortS_perm ks).nodup_iff.mpr hk.2)
  have hit : mItems (mVar 6) (Y9 tab p M x4 x5 (.ow (.lst (D.map .str))) (rsS x7)) = .ok (D.map .str) (Y9 tab p M x4 x5 (.fz (.lst (D.map .str))) (rsS x7)) := by
    simp [mItems, Y9, itemsOf]
  obtain ⟨x7', h7', e10⟩ := pops (tab := tab) (p := p) (x4 := x4) (x5 := x5) (x6 := .fz (.lst (D.map .str))) D M (rsS x7) ndD (fun q hq => ((mD q).mp hq).1) (rsS_bo' _)
  refine ⟨dropAll M D, .fz (.lst (D.map .str)), x7', (seq_nx e9).trans ((for_run hit).trans e10), ⟨dropAll_nt h.nt, dropAll_ks h.ks, Nat.le_trans dropAll_le h.sz, fun x hx => h.sub x (has_all.mp hx).2, fun x h0 hx => ?_, ?_⟩, rfl, h7'⟩
  · by_cases hm : Has M x
    · have hxD : x ∈ D := Classical.byContradiction fun z => hx (has_all.mpr ⟨z, hm⟩)
      refine Acc.intro x fun q hq => ?_
      exact h.gone q (cl x q h0 hq) (((mD x).mp hxD).2 q hq)
    · exact h.gone x h0 hm
  · rcases h.few with hf | hf
    · cases D with
      | nil =>
        refine .inr fun x hx ha => ?_
        have key : ∀ x, Acc (NdR tab) x → ¬ Has M x := fun x a => by
          induction a with
          | intro x _ ih =>
            intro hx
            exact absurd ((mD x).mpr ⟨hx, fun q hq => ih q hq⟩) (by simp)
        exact key x ha (has_all.mp hx).2
      | cons y D =>
        refine .inl ?_
        have hy := ((mD y).mp List.mem_cons_self).1
        have l1 := drop_lt hy
        have l2 : (dropAll (dropD M (.str y)) D).length ≤ (dropD M (.str y)).length := dropAll_le
        show (dropAll (dropD M (.str y)) D).length + (i + 1) ≤ n
        omega
    · exact .inr fun x hx => hf x (has_all.mp hx).2
theorem range_it {p : Str} {M0 : Tab} (hl : M0.length ≤ 18) {x4 x5 : Sl} : mIt range1 (mCons (mCall fLen (mCons (mVar 2) mNil)) mNil) (Y9 tab p M0 x4 x5 .un .un) = .ok (rangeD 0 M0.length) (Y9 tab p M0 x4 x5 .un .un) := by
  have h1 : fLen [.dct M0] = some (.fz (.int M0.length)) := rfl
  have h2 := range1_run M0.length (by omega) (Y9 tab p M0 x4 x5 .un .un)
  have h3 : mCons (mCall fLen (mCons (mVar 2) mNil)) mNil (Y9 tab p M0 x4 x5 .un .un) = .ok [.fz (.int M0.length)] (Y9 tab p M0 x4 x5 .un .un) := by
    simp [Y9, h1]
  unfold mIt
  rw [bnd_ok h3]
  have h4 : rdAll [.fz (.int M0.length)] (Y9 tab p M0 x4 x5 .un .un) = .ok [.int M0.length] (Y9 tab p M0 x4 x5 .un .un) := rfl
  rw [bnd_ok h4, h2]
theorem rounds {p : Str} {M0 : Tab} (nt : NT tab M0) (ks : ∃ ks, KeyS M0 ks) (hl : M0.length ≤ 18) (cl : ∀ x q, Has M0 x → Nd tab x q → Has M0 q) {x4 x5 : Sl} (h4 : isBo x4 = false) :
    ∃ M x4' x6 x7, s_law_is_round_8 (Y9 tab p M0 x4 x5 .un .un) = .ok .nx (Y9 tab p M x4' x5 x6 x7) ∧ RI tab M0 M0.length M0.length M := by
  obtain ⟨ρ', e8, M, x4', x6, x7, rfl, h4', h6, h7, R⟩ := loop_ix (t := .nm 4) (body := mSeq s_law_is_round_9 s_law_is_round_10) (fun i ρ => ∃ M x4 x6 x7, ρ = Y9 tab p M x4 x5 x6 x7 ∧ isBo x4 = false ∧ isBo x6 = false ∧ isBo x7 = false ∧ RI tab M0 M0.length i M) (rangeD 0 M0.length) (Y9 tab p M0 x4 x5 .un .un)
    ⟨M0, x4, .un, .un, rfl, h4, rfl, rfl, ⟨nt, ks, hl, fun x h => h, fun x h h' => absurd h h', .inl (Nat.le_refl _)⟩⟩
    (fun i d hd ρ ⟨M, x4, x6, x7, hρ, h4, h6, h7, R⟩ => by
      subst hρ
      obtain ⟨M', x6', x7', e, R', h6', h7'⟩ := round_turn (p := p) cl R (x4 := .fz d) (x5 := x5) h6 h7
      exact ⟨Y9 tab p M (.fz d) x5 x6 x7, Y9 tab p M' (.fz d) x5 x6' x7', by simp [Y9, h4], .inl e, M', .fz d, x6', x7', rfl, rfl, h6', h7', R'⟩)
  have hlen : (rangeD 0 M0.length).length = M0.length := by simp [rangeD]
  rw [hlen] at R
  exact ⟨M, x4', x6, x7, (for_run (range_it hl)).trans e8, R⟩
theorem RI.none {M0 M : Tab} (R : RI tab M0 M0.length M0.length M) : ∀ x, Has M x → ¬ Acc (NdR tab) x := by
  rcases R.few with f | f
  · intro x hx
    have : M = [] := List.length_eq_zero_iff.mp (by omega)
    subst this
    cases hx
  · exact f
theorem round_run (T : TabOk Us tab) {p : Str} (hp : p ∈ Us) : ∃ b : Bool, F_law_is_round [.fz (.dct tab), .fz (.str p)] = .ok false (.bl b) [] ∧ (b = true ↔ ¬ Acc (NdR tab) p) := by
  obtain ⟨M0, x4, x5, e2, h4, h5, nt, hpM, cl, hl, ks⟩ := explore T hp
  have e1 : s_law_is_round_1 [.fz (.dct tab), .fz (.str p), .un, .un, .un, .un, .un, .un, .un] = .ok .nx (X9 tab p [] [p] .un .un) := by
    simp [s_law_is_round_1, X9, sl_line 1 (by omega)]
  obtain ⟨M, x4', x6, x7, e8, R⟩ := rounds (p := p) nt ks hl cl (x5 := x5) h4
  have e12 : s_law_is_round_12 (Y9 tab p M x4' x5 x6 x7) = .ok (.rt (.fz (.bl (getK M (.inr p)).isSome))) (Y9 tab p M x4' x5 x6 x7) := by
    simp [s_law_is_round_12, Y9]
  have exy : X9 tab p M0 [] x4 x5 = Y9 tab p M0 x4 x5 .un .un := rfl
  rw [exy] at e2
  have : φ_law_is_round [.fz (.dct tab), .fz (.str p), .un, .un, .un, .un, .un, .un, .un] = .ok (.rt (.fz (.bl (getK M (.inr p)).isSome))) (Y9 tab p M x4' x5 x6 x7) := by
    unfold φ_law_is_round
    rw [seq_nx e1, seq_nx e2, seq_nx e8, e12]
  refine ⟨(getK M (.inr p)).isSome, ?_, fun h => R.none p h, fun h => ?_⟩
  · have := runB_fz (N := 9) (ks := [.fz (.dct tab), .fz (.str p)]) this
    rw [bosF_no _ _ (by rfl)] at this
    exact this
  exact Classical.byContradiction fun z => h (R.gone p hpM z)
end
end LW

namespace LW
open PySem DL
/-! ### the folders above a path -/
def pre (p : Str) : List Str := (List.range ((Txt.split p "/").length - 1)).map fun i => Txt.join "/" ((Txt.split p "/").take (i + 1))
def preB (p : Str) : Bool := decide (((Txt.split p "/").map (·.length)).sum + (Txt.split p "/").length ≤ 900) && decide (1 ≤ (Txt.split p "/").length) && match parR (F_parent [.fz (.str p)]) with
  | some none => decide (pre p = [])
  | some (some a) => decide (pre p = pre a ++ [a]) && decide (a ++ "/" ++ ((Txt.split p "/").getLast?.getD "") = p)
  | none => false
theorem pre_all : Us.all preB = true := by kernel_rfl
theorem par_eq {p : Str} {o : Option Str} (h : Par p o) : parR (F_parent [.fz (.str p)]) = some o := by
  rw [h.up]
  cases o <;> rfl
structure PreOk (p : Str) : Prop where
  sz : ((Txt.split p "/").map (·.length)).sum + (Txt.split p "/").length ≤ 900
  ne : 1 ≤ (Txt.split p "/").length
  top : Par p none → pre p = []
  sub : ∀ a, Par p (some a) → pre p = pre a ++ [a] ∧ ∀ l, Last p l → a ++ "/" ++ l = p
theorem pre_ok {p : Str} (h : p ∈ Us) : PreOk p := by
  have := List.all_eq_true.mp pre_all p h
  unfold preB at this
  rw [Bool.and_eq_true, Bool.and_eq_true, decide_eq_true_eq, decide_eq_true_eq] at this
  obtain ⟨⟨h1, h2⟩, h3⟩ := this
  refine ⟨h1, h2, fun P => ?_, fun a P => ?_⟩
  · rw [par_eq P] at h3
    exact of_decide_eq_true h3
  · rw [par_eq P] at h3
    dsimp only at h3
    rw [Bool.and_eq_true, decide_eq_true_eq, decide_eq_true_eq] at h3
    refine ⟨h3.1, fun l hl => ?_⟩
    obtain ⟨r, e⟩ := hl.sp
    have h4 := h3.2
    rw [e] at h4
    simpa using h4
section
variable {tab : Tab}
theorem plain_place {p : Str} (h : ∀ n p, (pre p).length = n → p ∈ Us → True) : True := trivial
/-- where all above are folders and it is no link, the answer is itself -/
theorem plain_tr : ∀ (n : Nat) (p : Str), (pre p).length = n → p ∈ Us → (∀ x ∈ pre p, getK tab (.inr x) = some fold) → ∀ k r, getK tab (.inr p) = some (.tup (.str k :: r)) → k ≠ "link" → Tr tab p "place" p
  | n, p, hn, hp, hx, k, r, e, hk => by
    obtain ⟨o, P, ha⟩ := us_pth hp
    have Q := pre_ok hp
    cases o with
    | none => exact .top0 P.up (.pl e hk)
    | some a =>
      obtain ⟨e1, e2⟩ := Q.sub a P.up
      obtain ⟨l, hl, _⟩ := last_some us_uni hp P.up
      have hfa : getK tab (.inr a) = some fold := hx a (by rw [e1]; simp)
      have hlen : (pre a).length < n := by rw [← hn, e1, List.length_append]; simp
      have ih := plain_tr (pre a).length a rfl (ha a rfl).1 (fun x h => hx x (by rw [e1]; exact List.mem_append_left _ h)) "folder" [] hfa (by decide)
      have e3 := e2 l hl
      have := Tr.sub0 (w := "place") (pl' := a ++ "/" ++ l) P.up ih hfa hl (.pl (by rw [e3]; exact e) hk)
      rwa [e3] at this
  termination_by n => n
/-! ### the law's env -/
def L11 (sc k fd tr pa wo pl ab pn : Sl) : DL.Env := [sc, k, fd, tr, pa, wo, pl, ab, pn, .un, .un]
@[simp] theorem opEq_bl (a b : Bool) : opEq (.bl a) (.bl b) = some (.fz (.bl (a == b))) := by
  cases a <;> cases b <;> simp [opEq, eqD, fl, L2.eqV]
@[simp] theorem opNe_bl (a b : Bool) : opNe (.bl a) (.bl b) = some (.fz (.bl (a != b))) := by
  cases a <;> cases b <;> simp [opNe, eqD, fl, L2.eqV]
theorem eq_tx (w pl : Str) : opNe (tx w pl) (tx w pl) = some (.fz (.bl false)) := by
  simp [opNe, tx, eqD, eqL, fl, L2.eqV]
theorem eq_tx' (w pl : Str) : opNe (.tup [.str w, .str pl]) (.tup [.str w, .str pl]) = some (.fz (.bl false)) := eq_tx w pl
def T3 (tab : Tab) (s : Sl) : Prop := s = .ow (.dct tab) ∨ s = .fz (.dct tab)
/-- what an answer is -/
inductive AnsW (tab : Tab) (p : Str) : Str → Str → Bool → Prop
  | tr {w pl : Str} : Tr tab p w pl → AnsW tab p w pl false
  | rd : ¬ Acc (NdR tab) p → AnsW tab p "round" "" true
theorem both (T : TabOk Us tab) {p : Str} (hp : p ∈ Us) : ∃ w pl b, F_answer [.fz (.dct tab), .fz (.str p)] = .ok false (.tup [.str w, .str pl]) [] ∧ F_law_is_round [.fz (.dct tab), .fz (.str p)] = .ok false (.bl b) [] ∧ AnsW tab p w pl b := by
  obtain ⟨w, pl, e1, h⟩ := ans T hp
  obtain ⟨b, e2, hb⟩ := round_run T hp
  refine ⟨w, pl, b, e1, e2, ?_⟩
  rcases h with h | ⟨rfl, rfl, h⟩
  · have : b = false := by
      cases b with
      | false => rfl
      | true => exact absurd h.acc (hb.mp rfl)
    subst this
    exact .tr h
  · rw [hb.mpr h]
    exact .rd h
theorem law_5 {p w pl : Str} (e1 : F_answer [.fz (.dct tab), .fz (.str p)] = .ok false (.tup [.str w, .str pl]) []) {sc k fd tr wo po ab pn : Sl} (h3 : T3 tab tr) (h5 : isBo wo = false) (h6 : isBo po = false) :
    s_law_5 (L11 sc k fd tr (.fz (.str p)) wo po ab pn) = .ok .nx (L11 sc k fd (.fz (.dct tab)) (.fz (.str p)) (.fz (.str w)) (.fz (.str pl)) ab pn) := by
  rcases h3 with rfl | rfl <;> simp [s_law_5, L11, e1, h5, h6]
theorem law_6 {p w pl : Str} {b : Bool} (e1 : F_answer [.fz (.dct tab), .fz (.str p)] = .ok false (.tup [.str w, .str pl]) []) (e2 : F_law_is_round [.fz (.dct tab), .fz (.str p)] = .ok false (.bl b) []) (h : AnsW tab p w pl b) {sc k fd ab pn : Sl} :
    s_law_6 (L11 sc k fd (.fz (.dct tab)) (.fz (.str p)) (.fz (.str w)) (.fz (.str pl)) ab pn) = .ok .nx (L11 sc k fd (.fz (.dct tab)) (.fz (.str p)) (.fz (.str w)) (.fz (.str pl)) ab pn) := by
  have hb : decide (w = "round") = b := by
    cases h with
    | tr t => exact decide_eq_false t.nround
    | rd _ => rfl
  simp [s_law_6, L11, e1, e2, hb, eq_tx', sl2]
theorem law_8 {p w pl : Str} {b : Bool} (h : AnsW tab p w pl b) {sc k fd ab pn : Sl} :
    s_law_8 (L11 sc k fd (.fz (.dct tab)) (.fz (.str p)) (.fz (.str w)) (.fz (.str pl)) ab pn) = .ok .nx (L11 sc k fd (.fz (.dct tab)) (.fz (.str p)) (.fz (.str w)) (.fz (.str pl)) ab pn) := by
  cases h with
  | tr t =>
    rcases t.word with ⟨rfl, k, r, e, hk⟩ | ⟨rfl, rfl⟩
    · simp [s_law_8, L11, e, hk]
    · simp (decide := true) [s_law_8, L11]
  | rd _ => simp (decide := true) [s_law_8, L11]
theorem law_10 {p w pl : Str} {b : Bool} (h : AnsW tab p w pl b) {sc k fd ab pn : Sl} :
    s_law_10 (L11 sc k fd (.fz (.dct tab)) (.fz (.str p)) (.fz (.str w)) (.fz (.str pl)) ab pn) = .ok .nx (L11 sc k fd (.fz (.dct tab)) (.fz (.str p)) (.fz (.str w)) (.fz (.str pl)) ab pn) := by
  have n1 : opNotIn (.str "round") (.tup [.str "round", .str "missing"]) = some (.fz (.bl false)) := by kernel_rfl
  have n2 : opNotIn (.str "missing") (.tup [.str "round", .str "missing"]) = some (.fz (.bl false)) := by kernel_rfl
  cases h with
  | tr t =>
    rcases t.word with ⟨rfl, k, r, e, hk⟩ | ⟨rfl, rfl⟩
    · simp [s_law_10, L11]
    · simp (decide := true) [s_law_10, L11, n2, sl2]
  | rd _ => simp (decide := true) [s_law_10, L11, n1, sl2]
theorem sl_take (l : List D) (k : Nat) (h : k ≤ l.length) : slD (.lst l) none (some (k : Int)) = some (.ow (.lst (l.take k))) := by
  unfold slD
  dsimp only
  rw [HT.sIx_nat, HT.sIx_none, List.drop_zero, Nat.min_eq_left h, Nat.sub_zero]
theorem sum_take (l : List Nat) (k : Nat) : (l.take k).sum ≤ l.sum := by
  have : l.sum = (l.take k).sum + (l.drop k).sum := by rw [← List.sum_append, List.take_append_drop]
  omega
theorem law_12 {p w pl : Str} (Q : PreOk p) (hl : p.length + 2 ≤ 1000) {sc k fd tr ab pn : Sl} (h7 : isBo ab = false) :
    s_law_12 (L11 sc k fd tr (.fz (.str p)) (.fz (.str w)) (.fz (.str pl)) ab pn) = .ok .nx (L11 sc k fd tr (.fz (.str p)) (.fz (.str w)) (.fz (.str pl)) (.ow (.lst ((pre p).map .str))) pn) := by
  have hs := sp_run (p := p) rfl hl
  generalize hP : Txt.split p "/" = P at hs
  have hsz := Q.sz
  have hne := Q.ne
  rw [hP] at hsz hne
  have hr : range2 [.int 1, .int (P.length : Int)] = M.ret (rangeD 1 (P.length - 1)) := by
    have h62 : (P.length : Int) < 2 ^ 62 := by
      have : (1000001 : Int) ≤ 2 ^ 62 := by decide
      omega
    unfold range2
    dsimp only
    rw [if_pos ⟨by decide, by decide, by omega, h62⟩]
    have : ((P.length : Int) - 1).toNat = P.length - 1 := by omega
    rw [this]
  have h1 : mCons (mC (.int 1)) (mCons (mCall fLen (mCons (mRead "str" sSplit (mVar 4) (mCons (mC (.str "/")) mNil)) mNil)) mNil) (L11 sc k fd tr (.fz (.str p)) (.fz (.str w)) (.fz (.str pl)) ab pn) = .ok [.fz (.int 1), .fz (.int (P.length : Int))] (L11 sc k fd tr (.fz (.str p)) (.fz (.str w)) (.fz (.str pl)) ab pn) := by
    simp [L11, hs]
  have hit : mIt range2 (mCons (mC (.int 1)) (mCons (mCall fLen (mCons (mRead "str" sSplit (mVar 4) (mCons (mC (.str "/")) mNil)) mNil)) mNil)) (L11 sc k fd tr (.fz (.str p)) (.fz (.str w)) (.fz (.str pl)) ab pn) = .ok (rangeD 1 (P.length - 1)) (L11 sc k fd tr (.fz (.str p)) (.fz (.str w)) (.fz (.str pl)) ab pn) := by
    unfold mIt
    rw [bnd_ok h1]
    have h4 : rdAll [.fz (.int 1), .fz (.int (P.length : Int))] (L11 sc k fd tr (.fz (.str p)) (.fz (.str w)) (.fz (.str pl)) ab pn) = .ok [.int 1, .int (P.length : Int)] (L11 sc k fd tr (.fz (.str p)) (.fz (.str w)) (.fz (.str pl)) ab pn) := rfl
    rw [bnd_ok h4, hr]
    rfl
  have c := comp_map (i := 9) (φ := mRead "str" sJoin (mC (.str "/")) (mCons (mSl (mRead "str" sSplit (mVar 4) (mCons (mC (.str "/")) mNil)) none (some (mVar 9))) mNil)) hit (s := .un) rfl rfl (fun d => match d with
    | .int i => .str (Txt.join "/" (P.take i.toNat))
    | _ => .non) (fun d hd => by
      unfold rangeD at hd
      obtain ⟨i, hi, rfl⟩ := List.mem_map.mp hd
      have hi := List.mem_range.mp hi
      have hle : i + 1 ≤ P.length := by omega
      have e1 : (1 : Int) + (i : Int) = ((i + 1 : Nat) : Int) := by omega
      have ht := sl_take (P.map .str) (i + 1) (by rw [List.length_map]; exact hle)
      rw [show ((i + 1 : Nat) : Int) = (i : Int) + 1 by omega] at ht
      have hj : sJoin (.str "/") [.lst ((P.take (i + 1)).map .str)] = some (.fz (.str (Txt.join "/" (P.take (i + 1))))) := join_run (by
        have h1 := sum_take (P.map (·.length)) (i + 1)
        rw [← List.map_take] at h1
        have h2 : (P.take (i + 1)).length ≤ P.length := by rw [List.length_take]; omega
        omega)
      rw [List.map_take] at hj
      refine ⟨.fz (.str (Txt.join "/" (P.take (i + 1)))), ?_, by simp [e1]⟩
      rw [e1]
      simp [L11, hs, ht, hj]) (by simp [rangeD]; omega)
  have hm : (rangeD 1 (P.length - 1)).map (fun d => match d with
    | D.int i => D.str (Txt.join "/" (P.take i.toNat))
    | _ => .non) = (pre p).map .str := by
    unfold rangeD pre
    rw [hP, List.map_map, List.map_map]
    refine List.map_congr_left fun i _ => ?_
    show D.str (Txt.join "/" (P.take ((1 : Int) + (i : Int)).toNat)) = D.str (Txt.join "/" (P.take (i + 1)))
    have : ((1 : Int) + (i : Int)).toNat = i + 1 := by omega
    rw [this]
  rw [hm] at c
  show mAsg 7 (mComp _ [9] _ _ _) _ = _
  rw [mAsg_app, bnd_ok c]
  simp [L11, h7]
theorem law_13 (T : TabOk Us tab) {p w pl : Str} {l : List Str} (hl : l.length ≤ 1000) {sc k fd pn : Sl} (h8 : isBo pn = false) : ∃ b : Bool, (b = true → ∀ x ∈ l, getK tab (.inr x) = some fold) ∧
    s_law_13 (L11 sc k fd (.fz (.dct tab)) (.fz (.str p)) (.fz (.str w)) (.fz (.str pl)) (.ow (.lst (l.map .str))) pn) = .ok .nx (L11 sc k fd (.fz (.dct tab)) (.fz (.str p)) (.fz (.str w)) (.fz (.str pl)) (.fz (.lst (l.map .str))) (.fz (.bl b))) := by
  have hit : mItems (mVar 7) (L11 sc k fd (.fz (.dct tab)) (.fz (.str p)) (.fz (.str w)) (.fz (.str pl)) (.ow (.lst (l.map .str))) pn) = .ok (l.map .str) (L11 sc k fd (.fz (.dct tab)) (.fz (.str p)) (.fz (.str w)) (.fz (.str pl)) (.fz (.lst (l.map .str))) pn) := by
    simp [mItems, L11, itemsOf]
  have hne : ∀ x, opNe ((getK tab (.inr x)).getD .non) (.tup [.str "folder"]) = some (.fz (.bl (!(match getK tab (.inr x) with
    | some v => (match eqD v 40 fold with | some true => true | _ => false)
    | none => false)))) ∧ ((match getK tab (.inr x) with
    | some v => (match eqD v 40 fold with | some true => true | _ => false)
    | none => false) = true → getK tab (.inr x) = some fold) := fun x => by
    cases e : getK tab (.inr x) with
    | none => exact ⟨by simp [opNe, eqD, fl], fun h => by cases h⟩
    | some v =>
      rcases not_fold (T.val x v e).2 with rfl | h
      · exact ⟨by simp [opNe, eq_fold], fun _ => rfl⟩
      · refine ⟨by simp [opNe, h], fun q => ?_⟩
        dsimp only at q
        rw [h] at q; cases q
  generalize hg : (fun x : Str => match getK tab (.inr x) with
    | some v => (match eqD v 40 fold with | some true => true | _ => false)
    | none => false) = g at *
  have hg' : ∀ x, opNe ((getK tab (.inr x)).getD .non) (.tup [.str "folder"]) = some (.fz (.bl (!g x))) ∧ (g x = true → getK tab (.inr x) = some fold) := fun x => by
    rw [← hg]
    exact hne x
  have c := comp_run (i := 10) (τ := mTest (mOp opNe (mRead "dict" dGet (mVar 3) (mCons (mVar 10) mNil)) (mTup (mCons (mC (.str "folder")) mNil)))) (φ := mVar 10) hit (s := .un) rfl rfl (fun d => match d with
    | .str x => if g x then none else some d
    | _ => none) (fun d hd => by
      obtain ⟨x, _, rfl⟩ := List.mem_map.mp hd
      have e1 : dGet (.dct tab) [.str x] = some (.fz ((getK tab (.inr x)).getD .non)) := rfl
      have hx := (hg' x).1
      refine ⟨fun z => ?_, fun y z => ?_⟩
      · dsimp only at z
        cases hgx : g x with
        | false => rw [hgx] at z; cases z
        | true => rw [hgx] at hx; simp [L11, e1, hx, sl_line 1 (by omega)]
      · dsimp only at z
        cases hgx : g x with
        | true => rw [hgx] at z; cases z
        | false =>
          rw [hgx] at z; cases z
          rw [hgx] at hx
          exact ⟨by simp [L11, e1, hx, sl_line 1 (by omega)], .sl 10, by simp [L11], by simp [L11]⟩) (by rw [List.length_map]; omega)
  generalize hR : List.filterMap (fun d => match d with
    | D.str x => if g x then none else some d
    | _ => none) (l.map .str) = R at c
  refine ⟨R.isEmpty, fun h x hx => ?_, ?_⟩
  · refine (hg' x).2 ?_
    cases hgx : g x with
    | true => rfl
    | false =>
      have : D.str x ∈ R := by
        rw [← hR]
        exact List.mem_filterMap.mpr ⟨.str x, List.mem_map.mpr ⟨x, hx, rfl⟩, by simp [hgx]⟩
      rw [List.isEmpty_iff.mp h] at this
      cases this
  · show mAsg 8 (mOp opEq (mComp _ [10] _ _ _) _) _ = _
    rw [mAsg_app, bnd_app, mOp_app, bnd_ok c]
    simp [L11, h8, sl_line 0 (by omega)]
theorem law_14 (T : TabOk Us tab) {p w pl : Str} {b c : Bool} (hp : p ∈ Us) (h : AnsW tab p w pl b) (hc : c = true → ∀ x ∈ pre p, getK tab (.inr x) = some fold) {sc k fd ab : Sl} :
    s_law_14 (L11 sc k fd (.fz (.dct tab)) (.fz (.str p)) (.fz (.str w)) (.fz (.str pl)) ab (.fz (.bl c))) = .ok .nx (L11 sc k fd (.fz (.dct tab)) (.fz (.str p)) (.fz (.str w)) (.fz (.str pl)) ab (.fz (.bl c))) := by
  cases c with
  | false => simp [s_law_14, L11]
  | true =>
    cases e : getK tab (.inr p) with
    | none => simp [s_law_14, L11, e]
    | some v =>
      rcases not_link (T.val p v e).2 with ⟨k, r, rfl, hk⟩ | ⟨t, rfl, _⟩
      · have t := plain_tr _ p rfl hp (hc rfl) k r e hk
        have : w = "place" ∧ pl = p := by
          cases h with
          | tr t2 => exact t2.uniq t
          | rd na => exact absurd t.acc na
        obtain ⟨rfl, rfl⟩ := this
        simp [s_law_14, L11, e, hk, sl2, eq_tx']
      · simp [s_law_14, L11, e]
end
end LW

namespace LW
open PySem DL
section
variable {tab : Tab}
abbrev bodyP : M Ctl := mSeq s_law_5 (mSeq s_law_6 (mSeq s_law_8 (mSeq s_law_10 (mSeq s_law_12 (mSeq s_law_13 s_law_14)))))
def PI (tab : Tab) (sc k fd : Sl) (ρ : DL.Env) : Prop := ∃ tr pa wo po ab pn, T3 tab tr ∧ isBo pa = false ∧ isBo wo = false ∧ isBo po = false ∧ isBo ab = false ∧ isBo pn = false ∧ ρ = L11 sc k fd tr pa wo po ab pn
theorem turn_path (T : TabOk Us tab) {p : Str} (hp : p ∈ Us) {sc k fd tr wo po ab pn : Sl} (h3 : T3 tab tr) (h5 : isBo wo = false) (h6 : isBo po = false) (h7 : isBo ab = false) (h8 : isBo pn = false) : ∃ ρ2, bodyP (L11 sc k fd tr (.fz (.str p)) wo po ab pn) = .ok .nx ρ2 ∧ PI tab sc k fd ρ2 := by
  obtain ⟨w, pl, b, e1, e2, A⟩ := both T hp
  obtain ⟨o, P, _⟩ := us_pth hp
  have Q := pre_ok hp
  have hpl : (pre p).length ≤ 1000 := by
    have := Q.sz
    unfold pre
    rw [List.length_map, List.length_range]
    omega
  obtain ⟨c, hc, e13⟩ := law_13 T (p := p) (w := w) (pl := pl) (l := pre p) hpl (sc := sc) (k := k) (fd := fd) h8
  exact ⟨_, (seq_nx (law_5 e1 h3 h5 h6)).trans ((seq_nx (law_6 e1 e2 A)).trans ((seq_nx (law_8 A)).trans ((seq_nx (law_10 A)).trans ((seq_nx (law_12 Q P.ln h7)).trans ((seq_nx e13).trans (law_14 T hp A hc)))))),
    _, _, _, _, _, _, .inr rfl, rfl, rfl, rfl, rfl, rfl, rfl⟩
theorem law_4 (hT : TreeT tab) (hl : tab.length ≤ 13) {sc k fd pa wo po ab pn : Sl} (h4 : isBo pa = false) (h5 : isBo wo = false) (h6 : isBo po = false) (h7 : isBo ab = false) (h8 : isBo pn = false) :
    ∃ ρ2, s_law_4 (L11 sc k fd (.ow (.dct tab)) pa wo po ab pn) = .ok .nx ρ2 ∧ PI tab sc k fd ρ2 := by
  have T := tabOk_of hT s16_us
  obtain ⟨ks, hs, hk, hlk⟩ := sorted_ok hT hl
  have hit : mItems (mOp opAdd (mCall fSorted (mCons (mVar 3) mNil)) (mLst (mCons (mC (.str "a/b/c/d")) (mCons (mC (.str "b/a/b/c")) (mCons (mC (.str "e")) mNil))))) (L11 sc k fd (.ow (.dct tab)) pa wo po ab pn) = .ok ((ks ++ (["a/b/c/d", "b/a/b/c", "e"] : List Str)).map .str) (L11 sc k fd (.ow (.dct tab)) pa wo po ab pn) := by
    have ea : opAdd (.lst (ks.map .str)) (.lst [.str "a/b/c/d", .str "b/a/b/c", .str "e"]) = some (.ow (.lst ((ks ++ (["a/b/c/d", "b/a/b/c", "e"] : List Str)).map .str))) := by
      show (if (ks.map D.str).length + 3 ≤ sizeLine then some (AV.ow (.lst (ks.map D.str ++ [.str "a/b/c/d", .str "b/a/b/c", .str "e"]))) else none) = _
      rw [if_pos (by rw [List.length_map]; exact sl_line _ (by omega)), List.map_append]; rfl
    unfold mItems L11
    simp [hs, sl_line 3 (by omega), ea, itemsOf]
  have hmem : ∀ p ∈ ks ++ (["a/b/c/d", "b/a/b/c", "e"] : List Str), p ∈ Us := fun p hp => by
    rcases List.mem_append.mp hp with hp | hp
    · exact s13_us p (hk p hp)
    · have h7 : ((["a/b/c/d", "b/a/b/c", "e"] : List Str).all fun p => decide (p ∈ Us)) = true := by decide +kernel
      exact of_decide_eq_true (List.all_eq_true.mp h7 p hp)
  obtain ⟨ρ', e, hI⟩ := loop_inv (t := .nm 4) (body := bodyP) (PI tab sc k fd) ((ks ++ (["a/b/c/d", "b/a/b/c", "e"] : List Str)).map .str) _ ⟨.ow (.dct tab), pa, wo, po, ab, pn, .inl rfl, h4, h5, h6, h7, h8, rfl⟩ (fun d hd ρ hI => by
    obtain ⟨tr, pa, wo, po, ab, pn, g3, g4, g5, g6, g7, g8, rfl⟩ := hI
    obtain ⟨p, hp, rfl⟩ := List.mem_map.mp hd
    obtain ⟨ρ2, e, hI⟩ := turn_path T (hmem p hp) (sc := sc) (k := k) (fd := fd) g3 g5 g6 g7 g8
    exact ⟨L11 sc k fd tr (.fz (.str p)) wo po ab pn, ρ2, by simp [L11, g4], .inl e, hI⟩)
  exact ⟨ρ', (for_run hit).trans e, hI⟩
end
def KI (ns : List Int) (ρ : DL.Env) : Prop := ∃ k fd tr pa wo po ab pn, isBo k = false ∧ isBo fd = false ∧ isBo tr = false ∧ isBo pa = false ∧ isBo wo = false ∧ isBo po = false ∧ isBo ab = false ∧ isBo pn = false ∧ ρ = L11 (.fz (.scr ns)) k fd tr pa wo po ab pn
theorem turn_k (ns : List Int) (k : Nat) (hk : k < 3) {fd tr pa wo po ab pn : Sl} (h2 : isBo fd = false) (h3 : isBo tr = false) (h4 : isBo pa = false) (h5 : isBo wo = false) (h6 : isBo po = false) (h7 : isBo ab = false) (h8 : isBo pn = false) :
    ∃ ρ2, mSeq s_law_2 (mSeq s_law_3 s_law_4) (L11 (.fz (.scr ns)) (.fz (.int (k : Int))) fd tr pa wo po ab pn) = .ok .nx ρ2 ∧ KI ns ρ2 := by
  obtain ⟨a, b, e1⟩ := feed_run ns k hk
  obtain ⟨a', b', tab, e2, hT, hl⟩ := tree_run a b
  have l2 : s_law_2 (L11 (.fz (.scr ns)) (.fz (.int (k : Int))) fd tr pa wo po ab pn) = .ok .nx (L11 (.fz (.scr ns)) (.fz (.int (k : Int))) (.ow (feed a b)) tr pa wo po ab pn) := by
    simp [s_law_2, L11, e1, h2]
  have l3 : s_law_3 (L11 (.fz (.scr ns)) (.fz (.int (k : Int))) (.ow (feed a b)) tr pa wo po ab pn) = .ok .nx (L11 (.fz (.scr ns)) (.fz (.int (k : Int))) (.ow (feed a' b')) (.ow (.dct tab)) pa wo po ab pn) := by
    simp [s_law_3, L11, e2, h3]
  obtain ⟨ρ2, e, tr', pa', wo', po', ab', pn', g3, g4, g5, g6, g7, g8, rfl⟩ := law_4 hT hl (sc := .fz (.scr ns)) (k := .fz (.int (k : Int))) (fd := .ow (feed a' b')) h4 h5 h6 h7 h8
  refine ⟨_, (seq_nx l2).trans ((seq_nx l3).trans e), _, _, tr', pa', wo', po', ab', pn', rfl, rfl, ?_, g4, g5, g6, g7, g8, rfl⟩
  rcases g3 with rfl | rfl <;> rfl
theorem law_1_it (ns : List Int) : ∃ m : Nat, m ≤ 3 ∧ mIt range1 (mCons (mCall fMax (mCons (mC (.int 1)) (mCons (mCall fMin (mCons (mC (.int 3)) (mCons (mCall fLen (mCons (mVar 0) mNil)) mNil))) mNil))) mNil) (L11 (.fz (.scr ns)) .un .un .un .un .un .un .un .un) = .ok (rangeD 0 m) (L11 (.fz (.scr ns)) .un .un .un .un .un .un .un .un) := by
  have hmin : ∃ j : Nat, j ≤ 3 ∧ (if ((ns.length : Int) < 3) then (ns.length : Int) else 3) = (j : Int) := by
    by_cases h : ((ns.length : Int) < 3)
    · exact ⟨ns.length, by omega, by rw [if_pos h]⟩
    · exact ⟨3, Nat.le_refl _, by rw [if_neg h]; rfl⟩
  obtain ⟨j, hj, ej⟩ := hmin
  have hmax : ∃ m : Nat, m ≤ 3 ∧ (if (j : Int) > 1 then (j : Int) else 1) = (m : Int) := by
    by_cases h : (j : Int) > 1
    · exact ⟨j, hj, by rw [if_pos h]⟩
    · exact ⟨1, by omega, by rw [if_neg h]; rfl⟩
  obtain ⟨m, hm, em⟩ := hmax
  have f1 : fMin [.int 3, .int (ns.length : Int)] = some (.fz (.int (j : Int))) := by rw [fMin_i, ej]
  have f2 : fMax [.int 1, .int (j : Int)] = some (.fz (.int (m : Int))) := by rw [fMax_i, em]
  refine ⟨m, hm, ?_⟩
  have h : mCons (mCall fMax (mCons (mC (.int 1)) (mCons (mCall fMin (mCons (mC (.int 3)) (mCons (mCall fLen (mCons (mVar 0) mNil)) mNil))) mNil))) mNil (L11 (.fz (.scr ns)) .un .un .un .un .un .un .un .un) = .ok [.fz (.int (m : Int))] (L11 (.fz (.scr ns)) .un .un .un .un .un .un .un .un) := by
    simp [L11, f1, f2, -fMin_i, -fMax_i]
  unfold mIt
  rw [bnd_ok h]
  have h4 : rdAll [.fz (.int (m : Int))] (L11 (.fz (.scr ns)) .un .un .un .un .un .un .un .un) = .ok [.int (m : Int)] (L11 (.fz (.scr ns)) .un .un .un .un .un .un .un .un) := rfl
  rw [bnd_ok h4, range1_run m (by omega)]
theorem law_1 (ns : List Int) : ∃ ρ', s_law_1 (L11 (.fz (.scr ns)) .un .un .un .un .un .un .un .un) = .ok .nx ρ' ∧ KI ns ρ' := by
  obtain ⟨m, hm, hit⟩ := law_1_it ns
  obtain ⟨ρ', e, hI⟩ := loop_ix (t := .nm 1) (body := mSeq s_law_2 (mSeq s_law_3 s_law_4)) (fun _ => KI ns) (rangeD 0 m) (L11 (.fz (.scr ns)) .un .un .un .un .un .un .un .un) ⟨.un, .un, .un, .un, .un, .un, .un, .un, rfl, rfl, rfl, rfl, rfl, rfl, rfl, rfl, rfl⟩ (fun i d hd ρ hI => by
    obtain ⟨k, fd, tr, pa, wo, po, ab, pn, h1, h2, h3, h4, h5, h6, h7, h8, rfl⟩ := hI
    unfold rangeD at hd
    rw [List.getElem?_map] at hd
    have hi : i < m := by
      by_cases h : i < m
      · exact h
      · rw [List.getElem?_eq_none (by simpa using h)] at hd; cases hd
    rw [List.getElem?_range hi] at hd
    have hd : d = .int (i : Int) := by
      have hd : d = .int (0 + (i : Int)) := (Option.some.inj hd).symm
      rw [hd, Int.zero_add]
    subst hd
    obtain ⟨ρ2, e2, hI2⟩ := turn_k ns i (by omega) h2 h3 h4 h5 h6 h7 h8
    exact ⟨L11 (.fz (.scr ns)) (.fz (.int (i : Int))) fd tr pa wo po ab pn, ρ2, by simp [L11, h1], .inl e2, hI2⟩)
  exact ⟨ρ', (for_run hit).trans e, hI⟩
theorem math (ns : List Int) (h : ns.length ≤ 63) : ∃ bs, F_law [.fz (.scr ns)] = .ok false (.bl true) bs := by
  obtain ⟨ρ', h1, hI⟩ := law_1 ns
  have h16 : s_law_16 ρ' = .ok (.rt (.fz (.bl true))) ρ' := rfl
  have e : φ_law [.fz (.scr ns), .un, .un, .un, .un, .un, .un, .un, .un, .un, .un] = .ok (.rt (.fz (.bl true))) ρ' := (seq_nx h1).trans h16
  exact ⟨_, runB_fz (N := 11) (ks := [.fz (.scr ns)]) e⟩
end LW

namespace LW
open PySem PySem.Spec PyProof.Rows L2 DL
/-! the walk -/
section
variable {P : Program} {w : World} {K : PySem.W.Frag} {mg : Str → Option Value} {base : Heap}
abbrev FnP (K : PySem.W.Frag) (x : Str) (i : Nat) (f : Addr) (fd : FuncData) : Prop := FunD K x x (defArgs (top i)) (defBody (top i)) (defScope (top i)) [] [] f fd
theorem sc_is_string : FnScope ["value", "most", "sign"] ["value", "most"] (defScope (top 6)) := ⟨rfl, rfl, rfl, by decide +kernel, rfl, by decide +kernel, by decide +kernel⟩
theorem b_is_string {f : Addr} {fd : FuncData} (F : FnP K "is_string" 6 f fd) (hs : ∀ X : Cx, X.K = K → X.mg = mg → Hs K mg X)  : FnG P w K mg base 1 f fd ["value", "most"] (spD K mg 2 F_is_string) :=
  fn_Dd (N := ["value", "most", "sign"]) F sc_is_string fun cdv A outer s H E b fit bd => by
  have room := bd.room
  have gd := bd.gd
  have hu := room.units
  have nd := sc_is_string.nd
  have hs : ∀ X : Cx, X.K = K → X.mg = mg → Hs K mg X := hs
  exact (dss_one (ds_ret (de_and (de_isi fit (isi_str) (.ty "str") (pe_bltn rfl (hs _ rfl rfl).n_str (by kernel_rfl) rfl) (de_var (pv 0)) (hs _ rfl rfl).n_isinstance) (de_and (de_cmp fit (od_le) (de_callB fit cd_len (hs _ rfl rfl).n_len (by kernel_rfl) (da_cons (de_var (pv 0)) da_nil)) (de_var (pv 1)) (nomark _)) (de_one (de_callB fit (cd_all rfl) (hs _ rfl rfl).n_all (by kernel_rfl) (da_cons (de_comp [("sign", 2)] fit nd (di_seq fit (de_var (pv 0))) (blk_sc (N' := ["value", "most", "sign"]) (sc' := (defScope (top 6))) rfl rfl (by show BlkOk _ _ _ [("sign", 2)]; exact ⟨rfl, by decide +kernel, by decide +kernel, by decide +kernel, by decide +kernel⟩)) (by decide) (fun _ _ _ _ _ _ fit1 => (dg_name nd rfl (by first | exact .inl rfl | exact .inr rfl))) (fun _ _ _ _ _ => dts_nil) (fun _ _ _ _ _ _ fit1 => (de_chain fit1 (od_le) (od_le) de_str (de_var (pv 2)) de_str))) da_nil)))))))
theorem sc_are_parts : FnScope ["text", "parts"] ["text"] (defScope (top 7)) := ⟨rfl, rfl, rfl, by decide +kernel, rfl, by decide +kernel, by decide +kernel⟩
theorem b_are_parts {f : Addr} {fd : FuncData} (F : FnP K "are_parts" 7 f fd) (hs : ∀ X : Cx, X.K = K → X.mg = mg → Hs K mg X)  : FnG P w K mg base 1 f fd ["text"] (spD K mg 1 F_are_parts) :=
  fn_Dd (N := ["text", "parts"]) F sc_are_parts fun cdv A outer s H E b fit bd => by
  have room := bd.room
  have gd := bd.gd
  have hu := room.units
  have nd := sc_are_parts.nd
  have hs : ∀ X : Cx, X.K = K → X.mg = mg → Hs K mg X := hs
  exact (dss_cons (ds_set nd (i := 1) rfl (by first | exact .inl rfl | exact .inr rfl) (de_m fit PySem.F.plainAttrs_str PySem.F.slot_str_split PySem.F.type_str_split md_split (de_var (pv 0)) (da_cons de_str da_nil)))
   (dss_one (ds_ret (de_and (de_cmp fit (od_le) (de_callB fit cd_len (hs _ rfl rfl).n_len (by kernel_rfl) (da_cons (de_var (pv 1)) da_nil)) (de_glob fit ((hs _ rfl rfl).c_MOST_PARTS) rfl) (nomark _)) (de_and (de_cmp fit (od_notin hu) de_str (de_var (pv 1)) (by rfl)) (de_and (de_cmp fit (od_notin hu) de_str (de_var (pv 1)) (by rfl)) (de_one (de_cmp fit (od_notin hu) de_str (de_var (pv 1)) (by rfl)))))))))
theorem sc_is_name : FnScope ["value"] ["value"] (defScope (top 8)) := ⟨rfl, rfl, rfl, by decide +kernel, rfl, by decide +kernel, by decide +kernel⟩
theorem b_is_name {f : Addr} {fd : FuncData} (F : FnP K "is_name" 8 f fd) (hs : ∀ X : Cx, X.K = K → X.mg = mg → Hs K mg X) (g_is_string : Gf P w K mg base 1 "is_string" 2 F_is_string) (g_are_parts : Gf P w K mg base 1 "are_parts" 1 F_are_parts) : FnG P w K mg base 2 f fd ["value"] (spD K mg 1 F_is_name) :=
  fn_Dd (N := ["value"]) F sc_is_name fun cdv A outer s H E b fit bd => by
  have room := bd.room
  have gd := bd.gd
  have hu := room.units
  have nd := sc_is_name.nd
  have hs : ∀ X : Cx, X.K = K → X.mg = mg → Hs K mg X := hs
  exact (dss_one (ds_ret (de_and (de_call fit bd.tk (g_is_string.cl room (by omega) gd) (dr_cons .fz (de_var (pv 0)) (fun _ => (dr_cons .fz (de_glob (fitA fit) ((hs _ rfl rfl).c_MOST_NAME) rfl) (fun _ => dr_nil))))) (de_one (de_call fit bd.tk (g_are_parts.cl room (by omega) gd) (dr_cons .fz (de_var (pv 0)) (fun _ => dr_nil)))))))
theorem sc_parent : FnScope ["name", "parts"] ["name"] (defScope (top 11)) := ⟨rfl, rfl, rfl, by decide +kernel, rfl, by decide +kernel, by decide +kernel⟩
theorem b_parent {f : Addr} {fd : FuncData} (F : FnP K "parent" 11 f fd) (hs : ∀ X : Cx, X.K = K → X.mg = mg → Hs K mg X) (g_is_name : Gf P w K mg base 2 "is_name" 1 F_is_name) : FnG P w K mg base 3 f fd ["name"] (spD K mg 1 F_parent) :=
  fn_Dd (N := ["name", "parts"]) F sc_parent fun cdv A outer s H E b fit bd => by
  have room := bd.room
  have gd := bd.gd
  have hu := room.units
  have nd := sc_parent.nd
  have hs : ∀ X : Cx, X.K = K → X.mg = mg → Hs K mg X := hs
  exact (dss_cons (ds_if (dt_not (dt_val (de_call fit bd.tk (g_is_name.cl room (by omega) gd) (dr_cons .fz (de_var (pv 0)) (fun _ => dr_nil))))) (dss_one (ds_raise0 fit bd.tk (hs _ rfl rfl).x_BadName)) dss_nil)
   (dss_cons (ds_set nd (i := 1) rfl (by first | exact .inl rfl | exact .inr rfl) (de_m fit PySem.F.plainAttrs_str PySem.F.slot_str_split PySem.F.type_str_split md_split (de_var (pv 0)) (da_cons de_str da_nil)))
   (dss_one (ds_ret (de_if (dt_cmp fit (od_gt) (de_callB fit cd_len (hs _ rfl rfl).n_len (by kernel_rfl) (da_cons (de_var (pv 1)) da_nil)) de_int (nomark _)) (de_m fit PySem.F.plainAttrs_str PySem.F.slot_str_join PySem.F.type_str_join md_join de_str (da_cons (de_slice fit (de_var (pv 1)) do_none (do_some (de_un fit ud_neg de_int))) da_nil)) de_non)))))
theorem sc_worked_out : FnScope ["table", "path", "known", "above", "here", "word", "place", "target"] ["table", "path", "known"] (defScope (top 13)) := ⟨rfl, rfl, rfl, by decide +kernel, rfl, by decide +kernel, by decide +kernel⟩
theorem b_worked_out {f : Addr} {fd : FuncData} (F : FnP K "worked_out" 13 f fd) (hs : ∀ X : Cx, X.K = K → X.mg = mg → Hs K mg X) (g_parent : Gf P w K mg base 3 "parent" 1 F_parent) : FnG P w K mg base 4 f fd ["table", "path", "known"] (spD K mg 3 F_worked_out) :=
  fn_Dd (N := ["table", "path", "known", "above", "here", "word", "place", "target"]) F sc_worked_out fun cdv A outer s H E b fit bd => by
  have room := bd.room
  have gd := bd.gd
  have hu := room.units
  have nd := sc_worked_out.nd
  have hs : ∀ X : Cx, X.K = K → X.mg = mg → Hs K mg X := hs
  exact (dss_cons (ds_par rfl nd (i := 3) (j := 4) rfl rfl (by decide) rfl rfl (dr_cons .unsl (de_call fit bd.tk (g_parent.cl room (by omega) gd) (dr_cons .fz (de_var (pv 1)) (fun _ => dr_nil))) (fun _ => (dr_cons .unsl (de_var (pv 1)) (fun _ => dr_nil)))) (by rfl))
   (dss_cons (ds_if (dt_cmp fit (od_isnot) (de_var (pv 3)) de_non (nomark _)) (dss_cons (ds_if (dt_cmp fit (od_notin hu) (de_var (pv 3)) (de_var (pv 2)) (by rfl)) (dss_one (ds_ret (de_tup (da_cons de_str (da_cons (de_var (pv 3)) da_nil))))) dss_nil)
   (dss_cons (ds_asgM (de_sub fit hu (de_var (pv 2)) (de_var (pv 3))) (dgm_tup fit rfl (dgm_cons (dgm_name nd rfl (by first | exact .inl rfl | exact .inr rfl)) (dgm_cons (dgm_name nd rfl (by first | exact .inl rfl | exact .inr rfl)) dgm_nil))))
   (dss_cons (ds_if (dt_cmp fit (od_ne hu) (de_var (pv 5)) de_str (nomark _)) (dss_one (ds_ret (de_tup (da_cons (de_var (pv 5)) (da_cons de_str da_nil))))) dss_nil)
   (dss_cons (ds_if (dt_cmp fit (od_ne hu) (de_sub fit hu (de_var (pv 0)) (de_var (pv 6))) (de_glob fit ((hs _ rfl rfl).c_FOLDER) rfl) (nomark _)) (dss_one (ds_ret (de_tup (da_cons de_str (da_cons de_str da_nil))))) dss_nil)
   (dss_one (ds_set nd (i := 4) rfl (by first | exact .inl rfl | exact .inr rfl) (de_op fit od_add (de_op fit od_add (de_var (pv 6)) de_str) (de_sub fit hu (de_m fit PySem.F.plainAttrs_str PySem.F.slot_str_split PySem.F.type_str_split md_split (de_var (pv 1)) (da_cons de_str da_nil)) (de_un fit ud_neg de_int))))))))) dss_nil)
   (dss_cons (ds_if (dt_cmp fit (od_notin hu) (de_var (pv 4)) (de_var (pv 0)) (by rfl)) (dss_one (ds_ret (de_tup (da_cons de_str (da_cons de_str da_nil))))) dss_nil)
   (dss_cons (ds_if (dt_cmp fit (od_ne hu) (de_sub fit hu (de_sub fit hu (de_var (pv 0)) (de_var (pv 4))) de_int) de_str (nomark _)) (dss_one (ds_ret (de_tup (da_cons de_str (da_cons (de_var (pv 4)) da_nil))))) dss_nil)
   (dss_cons (ds_set nd (i := 7) rfl (by first | exact .inl rfl | exact .inr rfl) (de_sub fit hu (de_sub fit hu (de_var (pv 0)) (de_var (pv 4))) de_int))
   (dss_one (ds_ret (de_if (dt_cmp fit (od_in hu) (de_var (pv 7)) (de_var (pv 2)) (by rfl)) (de_sub fit hu (de_var (pv 2)) (de_var (pv 7))) (de_tup (da_cons de_str (da_cons (de_var (pv 7)) da_nil)))))))))))
theorem sc_answer : FnScope ["table", "path", "known", "waiting", "word", "place"] ["table", "path"] (defScope (top 12)) := ⟨rfl, rfl, rfl, by decide +kernel, rfl, by decide +kernel, by decide +kernel⟩
theorem b_answer {f : Addr} {fd : FuncData} (F : FnP K "answer" 12 f fd) (hs : ∀ X : Cx, X.K = K → X.mg = mg → Hs K mg X) (g_is_name : Gf P w K mg base 2 "is_name" 1 F_is_name) (g_worked_out : Gf P w K mg base 4 "worked_out" 3 F_worked_out) : FnG P w K mg base 5 f fd ["table", "path"] (spD K mg 2 F_answer) :=
  fn_Dd (N := ["table", "path", "known", "waiting", "word", "place"]) F sc_answer fun cdv A outer s H E b fit bd => by
  have room := bd.room
  have gd := bd.gd
  have hu := room.units
  have nd := sc_answer.nd
  have hs : ∀ X : Cx, X.K = K → X.mg = mg → Hs K mg X := hs
  exact (dss_cons (ds_if (dt_not (dt_val (de_call fit bd.tk (g_is_name.cl room (by omega) gd) (dr_cons .fz (de_var (pv 1)) (fun _ => dr_nil))))) (dss_one (ds_raise0 fit bd.tk (hs _ rfl rfl).x_BadName)) dss_nil)
   (dss_cons (ds_par rfl nd (i := 2) (j := 3) rfl rfl (by decide) rfl rfl (dr_cons .unsl (de_disp (l := [((mVar 1), (mTup (mCons (mC (.str "round")) (mCons (mC (.str "")) mNil))))]) (dpp_cons (fun _ => (de_var (pv 1))) (fun _ => (de_tup (da_cons de_str (da_cons de_str da_nil)))) dpp_nil)) (fun _ => (dr_cons .unsl (de_lst (da_cons (de_var (pv 1)) da_nil)) (fun _ => dr_nil)))) (by rfl))
   (dss_cons (ds_while 100000 bd.hp (dt_cmp fit (od_ne hu) (de_var (pv 3)) (de_lst da_nil) (nomark _)) (dss_cons (ds_asgM (de_call fit bd.tk (g_worked_out.cl room (by omega) gd) (dr_cons .fz (de_var (pv 0)) (fun _ => (dr_cons .fz (de_sub (fitA fit) hu (de_var (pv 3)) (de_un (fitA fit) ud_neg de_int)) (fun _ => (dr_cons .keep (de_var (pv 2)) (fun _ => dr_nil))))))) (dgm_tup fit rfl (dgm_cons (dgm_name nd rfl (by first | exact .inl rfl | exact .inr rfl)) (dgm_cons (dgm_name nd rfl (by first | exact .inl rfl | exact .inr rfl)) dgm_nil))))
   (dss_one (ds_if (dt_cmp fit (od_eq hu) (de_var (pv 4)) de_str (nomark _)) (dss_cons (ds_asgM (de_tup (da_cons de_str (da_cons de_str da_nil))) (dgm_sub fit hu (de_var (pv 2)) (de_var (pv 5))))
   (dss_one (ds_expr (de_u fit PySem.F.plainAttrs_list PySem.F.slot_list_append PySem.F.type_list_append mu_append (de_var (pv 3)) (da_cons (de_var (pv 5)) da_nil))))) (dss_one (ds_asgM (de_tup (da_cons (de_var (pv 4)) (da_cons (de_var (pv 5)) da_nil))) (dgm_sub fit hu (de_var (pv 2)) (de_u0 fit PySem.F.plainAttrs_list PySem.F.slot_list_pop PySem.F.type_list_pop mu_pop (de_var (pv 3))))))))))
   (dss_one (ds_ret (de_sub fit hu (de_var (pv 2)) (de_var (pv 1))))))))
theorem sc_law_feed : FnScope ["script", "k", "cell", "digits", "state"] ["script", "k"] (defScope (top 15)) := ⟨rfl, rfl, rfl, by decide +kernel, rfl, by decide +kernel, by decide +kernel⟩
theorem b_law_feed {f : Addr} {fd : FuncData} (F : FnP K "_law_feed" 15 f fd) (hs : ∀ X : Cx, X.K = K → X.mg = mg → Hs K mg X)  : FnG P w K mg base 1 f fd ["script", "k"] (spD K mg 2 F_law_feed) :=
  fn_Dd (N := ["script", "k", "cell", "digits", "state"]) F sc_law_feed fun cdv A outer s H E b fit bd => by
  have room := bd.room
  have gd := bd.gd
  have hu := room.units
  have nd := sc_law_feed.nd
  have hs : ∀ X : Cx, X.K = K → X.mg = mg → Hs K mg X := hs
  exact (dss_cons (ds_set nd (i := 2) rfl (by first | exact .inl rfl | exact .inr rfl) (de_if (dt_cmp fit (od_lt) (de_var (pv 1)) (de_callB fit cd_len (hs _ rfl rfl).n_len (by kernel_rfl) (da_cons (de_var (pv 0)) da_nil)) (nomark _)) (de_sub fit hu (de_var (pv 0)) (de_var (pv 1))) (de_op fit od_add (de_op fit od_mul de_int (de_var (pv 1))) de_int)))
   (dss_cons (ds_set nd (i := 3) rfl (by first | exact .inl rfl | exact .inr rfl) (de_callB fit (cd_max rfl) (hs _ rfl rfl).n_max (by kernel_rfl) (da_cons de_int (da_cons (de_op fit od_sub (de_callB fit cd_abs (hs _ rfl rfl).n_abs (by kernel_rfl) (da_cons (de_var (pv 2)) da_nil)) (de_op fit od_pow de_int de_int)) da_nil))))
   (dss_cons (ds_set nd (i := 4) rfl (by first | exact .inl rfl | exact .inr rfl) (de_op fit od_mod (de_callTy fit cd_int (hs _ rfl rfl).n_int (by kernel_rfl) (da_cons (de_op fit od_add (de_op fit od_add (de_op fit od_mul (de_var (pv 2)) de_int) (de_op fit od_mul de_int (de_var (pv 1)))) de_int) da_nil)) de_int))
   (dss_one (ds_ret (de_lst (da_cons (de_var (pv 3)) (da_cons (de_var (pv 4)) da_nil))))))))
theorem sc_law_take : FnScope ["feed", "many", "digit"] ["feed", "many"] (defScope (top 16)) := ⟨rfl, rfl, rfl, by decide +kernel, rfl, by decide +kernel, by decide +kernel⟩
theorem b_law_take {f : Addr} {fd : FuncData} (F : FnP K "_law_take" 16 f fd) (hs : ∀ X : Cx, X.K = K → X.mg = mg → Hs K mg X)  : FnG P w K mg base 1 f fd ["feed", "many"] (spD K mg 2 F_law_take) :=
  fn_Dd (N := ["feed", "many", "digit"]) F sc_law_take fun cdv A outer s H E b fit bd => by
  have room := bd.room
  have gd := bd.gd
  have hu := room.units
  have nd := sc_law_take.nd
  have hs : ∀ X : Cx, X.K = K → X.mg = mg → Hs K mg X := hs
  exact (dss_cons (ds_if (dt_cmp fit (od_gt) (de_sub fit hu (de_var (pv 0)) de_int) de_int (nomark _)) (dss_cons (ds_set nd (i := 2) rfl (by first | exact .inl rfl | exact .inr rfl) (de_op fit od_mod (de_callTy fit cd_int (hs _ rfl rfl).n_int (by kernel_rfl) (da_cons (de_sub fit hu (de_var (pv 0)) de_int) da_nil)) (de_var (pv 1))))
   (dss_cons (ds_asgM (de_op fit od_div (de_sub fit hu (de_var (pv 0)) de_int) (de_var (pv 1))) (dgm_sub fit hu (de_var (pv 0)) de_int))
   (dss_one (ds_ret (de_var (pv 2)))))) dss_nil)
   (dss_cons (ds_asgM (de_op fit od_mod (de_callTy fit cd_int (hs _ rfl rfl).n_int (by kernel_rfl) (da_cons (de_op fit od_add (de_op fit od_mul (de_sub fit hu (de_var (pv 0)) de_int) de_int) de_int) da_nil)) de_int) (dgm_sub fit hu (de_var (pv 0)) de_int))
   (dss_one (ds_ret (de_op fit od_mod (de_callTy fit cd_int (hs _ rfl rfl).n_int (by kernel_rfl) (da_cons (de_op fit od_div (de_sub fit hu (de_var (pv 0)) de_int) de_int) da_nil)) (de_var (pv 1)))))))
theorem sc_law_pick : FnScope ["feed", "some"] ["feed", "some"] (defScope (top 17)) := ⟨rfl, rfl, rfl, by decide +kernel, rfl, by decide +kernel, by decide +kernel⟩
theorem b_law_pick {f : Addr} {fd : FuncData} (F : FnP K "_law_pick" 17 f fd) (hs : ∀ X : Cx, X.K = K → X.mg = mg → Hs K mg X) (g_law_take : Gf P w K mg base 1 "_law_take" 2 F_law_take) : FnG P w K mg base 2 f fd ["feed", "some"] (spD K mg 2 F_law_pick) :=
  fn_Dd (N := ["feed", "some"]) F sc_law_pick fun cdv A outer s H E b fit bd => by
  have room := bd.room
  have gd := bd.gd
  have hu := room.units
  have nd := sc_law_pick.nd
  have hs : ∀ X : Cx, X.K = K → X.mg = mg → Hs K mg X := hs
  exact (dss_one (ds_ret (de_sub fit hu (de_var (pv 1)) (de_call fit bd.tk (g_law_take.cl room (by omega) gd) (dr_cons .keep (de_var (pv 0)) (fun _ => (dr_cons .fz (de_callB (fitA fit) cd_len (hs _ rfl rfl).n_len (by kernel_rfl) (da_cons (de_var (pv 1)) da_nil)) (fun _ => dr_nil))))))))
theorem sc_law_tree : FnScope ["feed", "some", "found", "name", "case"] ["feed"] (defScope (top 18)) := ⟨rfl, rfl, rfl, by decide +kernel, rfl, by decide +kernel, by decide +kernel⟩
theorem b_law_tree {f : Addr} {fd : FuncData} (F : FnP K "_law_tree" 18 f fd) (hs : ∀ X : Cx, X.K = K → X.mg = mg → Hs K mg X) (g_law_take : Gf P w K mg base 1 "_law_take" 2 F_law_take) (g_law_pick : Gf P w K mg base 2 "_law_pick" 2 F_law_pick) : FnG P w K mg base 3 f fd ["feed"] (spD K mg 1 F_law_tree) :=
  fn_Dd (N := ["feed", "some", "found", "name", "case"]) F sc_law_tree fun cdv A outer s H E b fit bd => by
  have room := bd.room
  have gd := bd.gd
  have hu := room.units
  have nd := sc_law_tree.nd
  have hs : ∀ X : Cx, X.K = K → X.mg = mg → Hs K mg X := hs
  exact (dss_cons (ds_set nd (i := 1) rfl (by first | exact .inl rfl | exact .inr rfl) (de_lst (da_cons de_str (da_cons de_str (da_cons de_str (da_cons de_str (da_cons de_str (da_cons de_str (da_cons de_str (da_cons de_str (da_cons de_str (da_cons de_str (da_cons de_str (da_cons de_str (da_cons de_str da_nil)))))))))))))))
   (dss_cons (ds_set nd (i := 2) rfl (by first | exact .inl rfl | exact .inr rfl) de_dict0)
   (dss_cons (ds_for bd.hp (di_seq fit (de_var (pv 1))) (dg_name nd rfl (by first | exact .inl rfl | exact .inr rfl)) (dss_cons (ds_set nd (i := 4) rfl (by first | exact .inl rfl | exact .inr rfl) (de_call fit bd.tk (g_law_take.cl room (by omega) gd) (dr_cons .keep (de_var (pv 0)) (fun _ => (dr_cons .fz de_int (fun _ => dr_nil))))))
   (dss_one (ds_if (dt_cmp fit (od_lt) (de_var (pv 4)) de_int (nomark _)) (dss_one (ds_asgM (de_tup (da_cons de_str da_nil)) (dgm_sub fit hu (de_var (pv 2)) (de_var (pv 3))))) (dss_one (ds_if (dt_cmp fit (od_eq hu) (de_var (pv 4)) de_int (nomark _)) (dss_one (ds_asgM (de_tup (da_cons de_str (da_cons (de_call fit bd.tk (g_law_pick.cl room (by omega) gd) (dr_cons .keep (de_var (pv 0)) (fun _ => (dr_cons .fz (de_lst (da_cons de_str (da_cons de_str (da_cons de_str da_nil)))) (fun _ => dr_nil))))) da_nil))) (dgm_sub fit hu (de_var (pv 2)) (de_var (pv 3))))) (dss_one (ds_if (dt_cmp fit (od_lt) (de_var (pv 4)) de_int (nomark _)) (dss_one (ds_asgM (de_tup (da_cons de_str (da_cons (de_call fit bd.tk (g_law_pick.cl room (by omega) gd) (dr_cons .keep (de_var (pv 0)) (fun _ => (dr_cons .fz (de_op (fitA fit) od_add (de_var (pv 1)) (de_lst (da_cons de_str (da_cons de_str (da_cons de_str da_nil))))) (fun _ => dr_nil))))) da_nil))) (dgm_sub fit hu (de_var (pv 2)) (de_var (pv 3))))) dss_nil))))))))
   (dss_one (ds_ret (de_var (pv 2)))))))
theorem sc_law_needs : FnScope ["tree", "path", "parts", "here", "found", "above", "word", "place"] ["tree", "path"] (defScope (top 19)) := ⟨rfl, rfl, rfl, by decide +kernel, rfl, by decide +kernel, by decide +kernel⟩
theorem b_law_needs {f : Addr} {fd : FuncData} (F : FnP K "_law_needs" 19 f fd) (hs : ∀ X : Cx, X.K = K → X.mg = mg → Hs K mg X) (g_answer : Gf P w K mg base 5 "answer" 2 F_answer) : FnG P w K mg base 6 f fd ["tree", "path"] (spD K mg 2 F_law_needs) :=
  fn_Dd (N := ["tree", "path", "parts", "here", "found", "above", "word", "place"]) F sc_law_needs fun cdv A outer s H E b fit bd => by
  have room := bd.room
  have gd := bd.gd
  have hu := room.units
  have nd := sc_law_needs.nd
  have hs : ∀ X : Cx, X.K = K → X.mg = mg → Hs K mg X := hs
  exact (dss_cons (ds_par3 rfl nd (i := 2) (j := 3) (l := 4) rfl rfl rfl (by decide) (by decide) (by decide) rfl rfl rfl (dr_cons .unsl (de_m fit PySem.F.plainAttrs_str PySem.F.slot_str_split PySem.F.type_str_split md_split (de_var (pv 1)) (da_cons de_str da_nil)) (fun _ => (dr_cons .unsl (de_var (pv 1)) (fun _ => (dr_cons .unsl (de_lst da_nil) (fun _ => dr_nil)))))) (by rfl))
   (dss_cons (ds_if (dt_cmp fit (od_gt) (de_callB fit cd_len (hs _ rfl rfl).n_len (by kernel_rfl) (da_cons (de_var (pv 2)) da_nil)) de_int (nomark _)) (dss_cons (ds_set nd (i := 5) rfl (by first | exact .inl rfl | exact .inr rfl) (de_m fit PySem.F.plainAttrs_str PySem.F.slot_str_join PySem.F.type_str_join md_join de_str (da_cons (de_slice fit (de_var (pv 2)) do_none (do_some (de_un fit ud_neg de_int))) da_nil)))
   (dss_cons (ds_expr (de_u fit PySem.F.plainAttrs_list PySem.F.slot_list_append PySem.F.type_list_append mu_append (de_var (pv 4)) (da_cons (de_var (pv 5)) da_nil)))
   (dss_cons (ds_asgM (de_call fit bd.tk (g_answer.cl room (by omega) gd) (dr_cons .fz (de_var (pv 0)) (fun _ => (dr_cons .fz (de_var (pv 5)) (fun _ => dr_nil))))) (dgm_tup fit rfl (dgm_cons (dgm_name nd rfl (by first | exact .inl rfl | exact .inr rfl)) (dgm_cons (dgm_name nd rfl (by first | exact .inl rfl | exact .inr rfl)) dgm_nil))))
   (dss_cons (ds_if ((dw_or (dt_cmp fit (od_ne hu) (de_var (pv 6)) de_str (nomark _)) (dw_or1 (dt_cmp fit (od_ne hu) (de_sub fit hu (de_var (pv 0)) (de_var (pv 7))) (de_tup (da_cons de_str da_nil)) (nomark _))))).pt (dss_one (ds_ret (de_var (pv 4)))) dss_nil)
   (dss_one (ds_set nd (i := 3) rfl (by first | exact .inl rfl | exact .inr rfl) (de_op fit od_add (de_op fit od_add (de_var (pv 7)) de_str) (de_sub fit hu (de_var (pv 2)) (de_un fit ud_neg de_int))))))))) dss_nil)
   (dss_cons (ds_if ((dw_and (dt_cmp fit (od_in hu) (de_var (pv 3)) (de_var (pv 0)) (by rfl)) (dw_and1 (dt_cmp fit (od_eq hu) (de_sub fit hu (de_sub fit hu (de_var (pv 0)) (de_var (pv 3))) de_int) de_str (nomark _))))).pt (dss_one (ds_expr (de_u fit PySem.F.plainAttrs_list PySem.F.slot_list_append PySem.F.type_list_append mu_append (de_var (pv 4)) (da_cons (de_sub fit hu (de_sub fit hu (de_var (pv 0)) (de_var (pv 3))) de_int) da_nil)))) dss_nil)
   (dss_one (ds_ret (de_var (pv 4)))))))
theorem sc_law_is_round : FnScope ["tree", "path", "needs", "waiting", "turn", "here", "done", "one", "other"] ["tree", "path"] (defScope (top 20)) := ⟨rfl, rfl, rfl, by decide +kernel, rfl, by decide +kernel, by decide +kernel⟩
theorem b_law_is_round {f : Addr} {fd : FuncData} (F : FnP K "_law_is_round" 20 f fd) (hs : ∀ X : Cx, X.K = K → X.mg = mg → Hs K mg X) (g_law_needs : Gf P w K mg base 6 "_law_needs" 2 F_law_needs) : FnG P w K mg base 7 f fd ["tree", "path"] (spD K mg 2 F_law_is_round) :=
  fn_Dd (N := ["tree", "path", "needs", "waiting", "turn", "here", "done", "one", "other"]) F sc_law_is_round fun cdv A outer s H E b fit bd => by
  have room := bd.room
  have gd := bd.gd
  have hu := room.units
  have nd := sc_law_is_round.nd
  have hs : ∀ X : Cx, X.K = K → X.mg = mg → Hs K mg X := hs
  exact (dss_cons (ds_parT (is := [2, 3]) rfl (dr_cons .unsl de_dict0 (fun _ => (dr_cons .unsl (de_lst (da_cons (de_var (pv 1)) da_nil)) (fun _ => dr_nil)))) (pgs_cons (pg_name nd rfl (by first | exact .inl rfl | exact .inr rfl)) (pgs_cons (pg_name nd rfl (by first | exact .inl rfl | exact .inr rfl)) pgs_nil)) rfl)
   (dss_cons (ds_for bd.hp (di_range1 (hs _ rfl rfl).n_range (da_cons de_int da_nil)) (dg_name nd rfl (by first | exact .inl rfl | exact .inr rfl)) (dss_one (ds_if (dt_cmp fit (od_ne hu) (de_var (pv 3)) (de_lst da_nil) (nomark _)) (dss_cons (ds_set nd (i := 5) rfl (by first | exact .inl rfl | exact .inr rfl) (de_u0 fit PySem.F.plainAttrs_list PySem.F.slot_list_pop PySem.F.type_list_pop mu_pop (de_var (pv 3))))
   (dss_one (ds_if (dt_cmp fit (od_notin hu) (de_var (pv 5)) (de_var (pv 2)) (by rfl)) (dss_cons (ds_asgM (de_call fit bd.tk (g_law_needs.cl room (by omega) gd) (dr_cons .fz (de_var (pv 0)) (fun _ => (dr_cons .fz (de_var (pv 5)) (fun _ => dr_nil))))) (dgm_sub fit hu (de_var (pv 2)) (de_var (pv 5))))
   (dss_one (ds_set nd (i := 3) rfl (by first | exact .inl rfl | exact .inr rfl) (de_op fit od_add (de_var (pv 3)) (de_sub fit hu (de_var (pv 2)) (de_var (pv 5))))))) dss_nil))) dss_nil)))
   (dss_cons (ds_for bd.hp (di_range1 (hs _ rfl rfl).n_range (da_cons (de_callB fit cd_len (hs _ rfl rfl).n_len (by kernel_rfl) (da_cons (de_var (pv 2)) da_nil)) da_nil)) (dg_name nd rfl (by first | exact .inl rfl | exact .inr rfl)) (dss_cons (ds_setLc [("one", 7)] fit nd rfl rfl (di_seq fit (de_callB fit (cd_sorted rfl) (hs _ rfl rfl).n_sorted (by kernel_rfl) (da_cons (de_var (pv 2)) da_nil))) (blk_sc (N' := ["tree", "path", "needs", "waiting", "turn", "here", "done", "one", "other"]) (sc' := (defScope (top 20))) rfl rfl (by show BlkOk _ _ _ [("one", 7)]; exact ⟨rfl, by decide +kernel, by decide +kernel, by decide +kernel, by decide +kernel⟩)) (by decide) (fun _ _ _ _ _ _ fit2 => (dg_name nd rfl (by first | exact .inl rfl | exact .inr rfl))) (fun _ _ _ _ _ => dts_one (fun _ fit2 => (dt_cmp fit2 (od_eq hu) (de_comp [("other", 8)] fit2 nd (di_seq fit2 (de_sub fit2 hu (de_var (pv 2)) (de_var (pv 7)))) (blk_sc (N' := ["tree", "path", "needs", "waiting", "turn", "here", "done", "one", "other"]) (sc' := (⟨.function, [(".0", .local), ("one", .local), ("needs", .cell)], false, false, []⟩ : Scope)) rfl rfl (by show BlkOk _ _ _ [("other", 8)]; exact ⟨rfl, by decide +kernel, by decide +kernel, by decide +kernel, by decide +kernel⟩)) (by decide) (fun _ _ _ _ _ _ fit3 => (dg_name nd rfl (by first | exact .inl rfl | exact .inr rfl))) (fun _ _ _ _ _ => dts_one (fun _ fit3 => (dt_cmp fit3 (od_in hu) (de_var (pv 8)) (de_var (pv 2)) (by rfl)))) (fun _ _ _ _ _ _ fit3 => (de_var (pv 8)))) (de_lst da_nil) (nomark _)))) (fun _ _ _ _ _ _ fit2 => (de_var (pv 7))))
   (dss_one (ds_for bd.hp (di_seq fit (de_var (pv 6))) (dg_name nd rfl (by first | exact .inl rfl | exact .inr rfl)) (dss_one (ds_expr (de_u fit PySem.F.plainAttrs_dict PySem.F.slot_dict_pop PySem.F.type_dict_pop mu_dpop (de_var (pv 2)) (da_cons (de_var (pv 7)) da_nil))))))))
   (dss_one (ds_ret (de_cmp fit (od_in hu) (de_var (pv 1)) (de_var (pv 2)) (by rfl)))))))
theorem sc_law : FnScope ["script", "k", "feed", "tree", "path", "word", "place", "above", "plain", "at", "one"] ["script"] (defScope (top 21)) := ⟨rfl, rfl, rfl, by decide +kernel, rfl, by decide +kernel, by decide +kernel⟩
theorem b_law {f : Addr} {fd : FuncData} (F : FnP K "law" 21 f fd) (hs : ∀ X : Cx, X.K = K → X.mg = mg → Hs K mg X) (g_law_feed : Gf P w K mg base 1 "_law_feed" 2 F_law_feed) (g_law_tree : Gf P w K mg base 3 "_law_tree" 1 F_law_tree) (g_answer : Gf P w K mg base 5 "answer" 2 F_answer) (g_law_is_round : Gf P w K mg base 7 "_law_is_round" 2 F_law_is_round) : FnG P w K mg base 8 f fd ["script"] (spD K mg 1 F_law) :=
  fn_Dd (N := ["script", "k", "feed", "tree", "path", "word", "place", "above", "plain", "at", "one"]) F sc_law fun cdv A outer s H E b fit bd => by
  have room := bd.room
  have gd := bd.gd
  have hu := room.units
  have nd := sc_law.nd
  have hs : ∀ X : Cx, X.K = K → X.mg = mg → Hs K mg X := hs
  exact (dss_cons (ds_for bd.hp (di_range1 (hs _ rfl rfl).n_range (da_cons (de_callB fit (cd_max rfl) (hs _ rfl rfl).n_max (by kernel_rfl) (da_cons de_int (da_cons (de_callB fit (cd_min rfl) (hs _ rfl rfl).n_min (by kernel_rfl) (da_cons de_int (da_cons (de_callB fit cd_len (hs _ rfl rfl).n_len (by kernel_rfl) (da_cons (de_var (pv 0)) da_nil)) da_nil))) da_nil))) da_nil)) (dg_name nd rfl (by first | exact .inl rfl | exact .inr rfl)) (dss_cons (ds_set nd (i := 2) rfl (by first | exact .inl rfl | exact .inr rfl) (de_call fit bd.tk (g_law_feed.cl room (by omega) gd) (dr_cons .fz (de_var (pv 0)) (fun _ => (dr_cons .fz (de_var (pv 1)) (fun _ => dr_nil))))))
   (dss_cons (ds_set nd (i := 3) rfl (by first | exact .inl rfl | exact .inr rfl) (de_call fit bd.tk (g_law_tree.cl room (by omega) gd) (dr_cons .keep (de_var (pv 2)) (fun _ => dr_nil))))
   (dss_one (ds_for bd.hp (di_seq fit (de_op fit od_add (de_callB fit (cd_sorted rfl) (hs _ rfl rfl).n_sorted (by kernel_rfl) (da_cons (de_var (pv 3)) da_nil)) (de_lst (da_cons de_str (da_cons de_str (da_cons de_str da_nil)))))) (dg_name nd rfl (by first | exact .inl rfl | exact .inr rfl)) (dss_cons (ds_asgM (de_call fit bd.tk (g_answer.cl room (by omega) gd) (dr_cons .fz (de_var (pv 3)) (fun _ => (dr_cons .fz (de_var (pv 4)) (fun _ => dr_nil))))) (dgm_tup fit rfl (dgm_cons (dgm_name nd rfl (by first | exact .inl rfl | exact .inr rfl)) (dgm_cons (dgm_name nd rfl (by first | exact .inl rfl | exact .inr rfl)) dgm_nil))))
   (dss_cons (ds_if ((dw_or (dt_cmp fit (od_ne hu) (de_cmp fit (od_eq hu) (de_var (pv 5)) de_str (nomark _)) (de_call fit bd.tk (g_law_is_round.cl room (by omega) gd) (dr_cons .fz (de_var (pv 3)) (fun _ => (dr_cons .fz (de_var (pv 4)) (fun _ => dr_nil))))) (nomark _)) (dw_or1 (dt_cmp fit (od_ne hu) (de_call fit bd.tk (g_answer.cl room (by omega) gd) (dr_cons .fz (de_var (pv 3)) (fun _ => (dr_cons .fz (de_var (pv 4)) (fun _ => dr_nil))))) (de_tup (da_cons (de_var (pv 5)) (da_cons (de_var (pv 6)) da_nil))) (nomark _))))).pt (dss_one (ds_ret de_bl)) dss_nil)
   (dss_cons (ds_if ((dw_and (dt_cmp fit (od_eq hu) (de_var (pv 5)) de_str (nomark _)) (dw_and1 ((dw_or (dt_cmp fit (od_notin hu) (de_var (pv 6)) (de_var (pv 3)) (by rfl)) (dw_or1 (dt_cmp fit (od_eq hu) (de_sub fit hu (de_sub fit hu (de_var (pv 3)) (de_var (pv 6))) de_int) de_str (nomark _))))).pt))).pt (dss_one (ds_ret de_bl)) dss_nil)
   (dss_cons (ds_if ((dw_and (dt_cmp fit (od_ne hu) (de_var (pv 5)) de_str (nomark _)) (dw_and1 ((dw_or (dt_cmp fit (od_ne hu) (de_var (pv 6)) de_str (nomark _)) (dw_or1 (dt_cmp fit (od_notin hu) (de_var (pv 5)) (de_tup (da_cons de_str (da_cons de_str da_nil))) (by rfl))))).pt))).pt (dss_one (ds_ret de_bl)) dss_nil)
   (dss_cons (ds_setLc [("at", 9)] fit nd rfl rfl (di_range2 (hs _ rfl rfl).n_range (da_cons de_int (da_cons (de_callB fit cd_len (hs _ rfl rfl).n_len (by kernel_rfl) (da_cons (de_m fit PySem.F.plainAttrs_str PySem.F.slot_str_split PySem.F.type_str_split md_split (de_var (pv 4)) (da_cons de_str da_nil)) da_nil)) da_nil))) (blk_sc (N' := ["script", "k", "feed", "tree", "path", "word", "place", "above", "plain", "at", "one"]) (sc' := (defScope (top 21))) rfl rfl (by show BlkOk _ _ _ [("at", 9)]; exact ⟨rfl, by decide +kernel, by decide +kernel, by decide +kernel, by decide +kernel⟩)) (by decide) (fun _ _ _ _ _ _ fit4 => (dg_name nd rfl (by first | exact .inl rfl | exact .inr rfl))) (fun _ _ _ _ _ => dts_nil) (fun _ _ _ _ _ _ fit4 => (de_m fit4 PySem.F.plainAttrs_str PySem.F.slot_str_join PySem.F.type_str_join md_join de_str (da_cons (de_slice fit4 (de_m fit4 PySem.F.plainAttrs_str PySem.F.slot_str_split PySem.F.type_str_split md_split (de_var (pv 4)) (da_cons de_str da_nil)) do_none (do_some (de_var (pv 9)))) da_nil))))
   (dss_cons (ds_set nd (i := 8) rfl (by first | exact .inl rfl | exact .inr rfl) (de_cmp fit (od_eq hu) (de_comp [("one", 10)] fit nd (di_seq fit (de_var (pv 7))) (blk_sc (N' := ["script", "k", "feed", "tree", "path", "word", "place", "above", "plain", "at", "one"]) (sc' := (defScope (top 21))) rfl rfl (by show BlkOk _ _ _ [("one", 10)]; exact ⟨rfl, by decide +kernel, by decide +kernel, by decide +kernel, by decide +kernel⟩)) (by decide) (fun _ _ _ _ _ _ fit5 => (dg_name nd rfl (by first | exact .inl rfl | exact .inr rfl))) (fun _ _ _ _ _ => dts_one (fun _ fit5 => (dt_cmp fit5 (od_ne hu) (de_m fit5 PySem.F.plainAttrs_dict PySem.F.slot_dict_get PySem.F.type_dict_get (md_get (hu1 hu)) (de_var (pv 3)) (da_cons (de_var (pv 10)) da_nil)) (de_tup (da_cons de_str da_nil)) (nomark _)))) (fun _ _ _ _ _ _ fit5 => (de_var (pv 10)))) (de_lst da_nil) (nomark _)))
   (dss_one (ds_if ((dw_and (dt_val (de_var (pv 8))) (dw_and (dt_cmp fit (od_in hu) (de_var (pv 4)) (de_var (pv 3)) (by rfl)) (dw_and (dt_cmp fit (od_ne hu) (de_sub fit hu (de_sub fit hu (de_var (pv 3)) (de_var (pv 4))) de_int) de_str (nomark _)) (dw_and1 (dt_cmp fit (od_ne hu) (de_tup (da_cons (de_var (pv 5)) (da_cons (de_var (pv 6)) da_nil))) (de_tup (da_cons de_str (da_cons (de_var (pv 4)) da_nil))) (nomark _))))))).pt (dss_one (ds_ret de_bl)) dss_nil)))))))))))))
   (dss_one (ds_ret de_bl)))
end
/-! the head -/
def dd_is_string : He.DefD := ⟨("is_string", none), "is_string", "is_string", defArgs (top 6), defBody (top 6), defScope (top 6), [], []⟩
def dd_are_parts : He.DefD := ⟨("are_parts", none), "are_parts", "are_parts", defArgs (top 7), defBody (top 7), defScope (top 7), [], []⟩
def dd_is_name : He.DefD := ⟨("is_name", none), "is_name", "is_name", defArgs (top 8), defBody (top 8), defScope (top 8), [], []⟩
def dd_parent : He.DefD := ⟨("parent", none), "parent", "parent", defArgs (top 11), defBody (top 11), defScope (top 11), [], []⟩
def dd_worked_out : He.DefD := ⟨("worked_out", none), "worked_out", "worked_out", defArgs (top 13), defBody (top 13), defScope (top 13), [], []⟩
def dd_answer : He.DefD := ⟨("answer", none), "answer", "answer", defArgs (top 12), defBody (top 12), defScope (top 12), [], []⟩
def dd_law_feed : He.DefD := ⟨("_law_feed", none), "_law_feed", "_law_feed", defArgs (top 15), defBody (top 15), defScope (top 15), [], []⟩
def dd_law_take : He.DefD := ⟨("_law_take", none), "_law_take", "_law_take", defArgs (top 16), defBody (top 16), defScope (top 16), [], []⟩
def dd_law_pick : He.DefD := ⟨("_law_pick", none), "_law_pick", "_law_pick", defArgs (top 17), defBody (top 17), defScope (top 17), [], []⟩
def dd_law_tree : He.DefD := ⟨("_law_tree", none), "_law_tree", "_law_tree", defArgs (top 18), defBody (top 18), defScope (top 18), [], []⟩
def dd_law_needs : He.DefD := ⟨("_law_needs", none), "_law_needs", "_law_needs", defArgs (top 19), defBody (top 19), defScope (top 19), [], []⟩
def dd_law_is_round : He.DefD := ⟨("_law_is_round", none), "_law_is_round", "_law_is_round", defArgs (top 20), defBody (top 20), defScope (top 20), [], []⟩
def dd_law : He.DefD := ⟨("law", none), "law", "law", defArgs (top 21), defBody (top 21), defScope (top 21), [], []⟩
def fn : List He.DefD := [dd_is_string, dd_are_parts, dd_is_name, dd_parent, dd_worked_out, dd_answer, dd_law_feed, dd_law_take, dd_law_pick, dd_law_tree, dd_law_needs, dd_law_is_round, dd_law]
def fa : List He.Fa := [.free "abs", .free "all", .free "int", .free "isinstance", .free "len", .free "max", .free "min", .free "range", .free "sorted", .free "str", .glo "FOLDER", .int "MOST_NAME" 60, .int "MOST_PARTS" 8, .exc "BadName", .glo "BadName", .glo "is_string", .glo "are_parts", .glo "is_name", .glo "parent", .glo "worked_out", .glo "answer", .glo "_law_feed", .glo "_law_take", .glo "_law_pick", .glo "_law_tree", .glo "_law_needs", .glo "_law_is_round", .glo "law"]
def ex : List (PySem.W.Frag → Bool) := [fun K => He.tupB K "FOLDER" [(.str "folder")]]
abbrev R : PySem.W.OpenRow := PySem.W.OpenLaw.row PySem.Challenge.rw_twolistings_k55_whole_round_by_needs
abbrev hk : PySem.W.Hook := hookX 4 fa fn ex
def ob (s : PySem.W.SharedT) : AlX := obsXG 4 fa fn ex (HandSHeadRun.getT s)
theorem ob_eq (s : PySem.W.SharedT) : ob s = hk.obs s.abs := obsXG_eq (HandSHeadRun.getT_eq s)
def loose : List Str := ["__name__", "TwoError", "BadName", "MOST_NAME", "MOST_PARTS", "is_string", "are_parts", "is_name", "FOLDER", "parent", "answer", "worked_out", "_law_feed", "_law_take", "_law_pick", "_law_tree", "_law_needs", "_law_is_round"]
theorem run (w : World) : HandSHeadRun.RunEq R (PySem.W.view R.prog [21]) hk ob 4000 loose w := by
  intro os
  kernel_rfl
theorem hs_of {K : PySem.W.Frag} {h : Heap} {mg : Str → Option Value} (X : K.In h) (G : h.Ns mainGlobals mg) (c : SaysX fa fn ex K) : ∀ Y : Cx, Y.K = K → Y.mg = mg → Hs K mg Y := by
  intro Y eK eM
  subst eK
  subst eM
  exact {
    K := rfl
    mg := rfl
    n_abs := He.free_ok X G (c.d.fact 0 rfl)
    n_all := He.free_ok X G (c.d.fact 1 rfl)
    n_int := He.free_ok X G (c.d.fact 2 rfl)
    n_isinstance := He.free_ok X G (c.d.fact 3 rfl)
    n_len := He.free_ok X G (c.d.fact 4 rfl)
    n_max := He.free_ok X G (c.d.fact 5 rfl)
    n_min := He.free_ok X G (c.d.fact 6 rfl)
    n_range := He.free_ok X G (c.d.fact 7 rfl)
    n_sorted := He.free_ok X G (c.d.fact 8 rfl)
    n_str := He.free_ok X G (c.d.fact 9 rfl)
    c_FOLDER := glo_tup (He.glo_ok X G (c.d.fact 10 rfl)) (fun H => He.tupB_ok (vs := [(.str "folder")]) (c.extra 0 rfl) H) rfl
    c_MOST_NAME := glo_int (He.int_ok X G (c.d.fact 11 rfl))
    c_MOST_PARTS := glo_int (He.int_ok X G (c.d.fact 12 rfl))
    x_BadName := xcD_of (He.glo_ok X G (c.d.fact 14 rfl)) (He.exc_ok (c.d.fact 13 rfl))
    }
theorem facts {P : Program} {w : World} {K : PySem.W.Frag} {h : Heap} {mg : Str → Option Value} {f : Addr} (X : K.In h) (G : h.Ns mainGlobals mg) (hfa : mg ("law" : Str) = some (.ref f)) (c : SaysX fa fn ex K) :
    ∃ fd : FuncData, (∀ (s : Shared) (v : Value), BindsTo s fd ⟨[v], []⟩ [("script", v)]) ∧ ∀ base : Heap, K.In base → base.Ns mainGlobals mg → FnG P w K mg base 8 f fd ["script"] (spD K mg 1 F_law) := by
  have hs := hs_of X G c
  obtain ⟨fd_is_string, D_is_string⟩ := c.d.def_ 0 (d := dd_is_string) rfl
  obtain ⟨fd_are_parts, D_are_parts⟩ := c.d.def_ 1 (d := dd_are_parts) rfl
  obtain ⟨fd_is_name, D_is_name⟩ := c.d.def_ 2 (d := dd_is_name) rfl
  obtain ⟨fd_parent, D_parent⟩ := c.d.def_ 3 (d := dd_parent) rfl
  obtain ⟨fd_worked_out, D_worked_out⟩ := c.d.def_ 4 (d := dd_worked_out) rfl
  obtain ⟨fd_answer, D_answer⟩ := c.d.def_ 5 (d := dd_answer) rfl
  obtain ⟨fd_law_feed, D_law_feed⟩ := c.d.def_ 6 (d := dd_law_feed) rfl
  obtain ⟨fd_law_take, D_law_take⟩ := c.d.def_ 7 (d := dd_law_take) rfl
  obtain ⟨fd_law_pick, D_law_pick⟩ := c.d.def_ 8 (d := dd_law_pick) rfl
  obtain ⟨fd_law_tree, D_law_tree⟩ := c.d.def_ 9 (d := dd_law_tree) rfl
  obtain ⟨fd_law_needs, D_law_needs⟩ := c.d.def_ 10 (d := dd_law_needs) rfl
  obtain ⟨fd_law_is_round, D_law_is_round⟩ := c.d.def_ 11 (d := dd_law_is_round) rfl
  obtain ⟨fd_law, D_law⟩ := c.d.def_ 12 (d := dd_law) rfl
  have e := hfa.symm.trans (He.glo_ok X G (c.d.fact 27 rfl))
  cases e
  have b := FunD.bindsA (ps := ["script"]) D_law fun _ _ _ _ _ _ us hl => match us, hl with | [_], _ => rfl
  refine ⟨fd_law, fun s v => b s [v] rfl, fun base _ _ => ?_⟩
  have g_is_string : Gf P w K mg base 1 "is_string" 2 F_is_string := Gf.of D_is_string (He.glo_ok X G (c.d.fact 15 rfl)) (fun _ _ _ _ _ _ us hl => match us, hl with | [_, _], _ => rfl) (b_is_string D_is_string hs )
  have g_are_parts : Gf P w K mg base 1 "are_parts" 1 F_are_parts := Gf.of D_are_parts (He.glo_ok X G (c.d.fact 16 rfl)) (fun _ _ _ _ _ _ us hl => match us, hl with | [_], _ => rfl) (b_are_parts D_are_parts hs )
  have g_is_name : Gf P w K mg base 2 "is_name" 1 F_is_name := Gf.of D_is_name (He.glo_ok X G (c.d.fact 17 rfl)) (fun _ _ _ _ _ _ us hl => match us, hl with | [_], _ => rfl) (b_is_name D_is_name hs g_is_string g_are_parts)
  have g_parent : Gf P w K mg base 3 "parent" 1 F_parent := Gf.of D_parent (He.glo_ok X G (c.d.fact 18 rfl)) (fun _ _ _ _ _ _ us hl => match us, hl with | [_], _ => rfl) (b_parent D_parent hs g_is_name)
  have g_worked_out : Gf P w K mg base 4 "worked_out" 3 F_worked_out := Gf.of D_worked_out (He.glo_ok X G (c.d.fact 19 rfl)) (fun _ _ _ _ _ _ us hl => match us, hl with | [_, _, _], _ => rfl) (b_worked_out D_worked_out hs g_parent)
  have g_answer : Gf P w K mg base 5 "answer" 2 F_answer := Gf.of D_answer (He.glo_ok X G (c.d.fact 20 rfl)) (fun _ _ _ _ _ _ us hl => match us, hl with | [_, _], _ => rfl) (b_answer D_answer hs g_is_name g_worked_out)
  have g_law_feed : Gf P w K mg base 1 "_law_feed" 2 F_law_feed := Gf.of D_law_feed (He.glo_ok X G (c.d.fact 21 rfl)) (fun _ _ _ _ _ _ us hl => match us, hl with | [_, _], _ => rfl) (b_law_feed D_law_feed hs )
  have g_law_take : Gf P w K mg base 1 "_law_take" 2 F_law_take := Gf.of D_law_take (He.glo_ok X G (c.d.fact 22 rfl)) (fun _ _ _ _ _ _ us hl => match us, hl with | [_, _], _ => rfl) (b_law_take D_law_take hs )
  have g_law_pick : Gf P w K mg base 2 "_law_pick" 2 F_law_pick := Gf.of D_law_pick (He.glo_ok X G (c.d.fact 23 rfl)) (fun _ _ _ _ _ _ us hl => match us, hl with | [_, _], _ => rfl) (b_law_pick D_law_pick hs g_law_take)
  have g_law_tree : Gf P w K mg base 3 "_law_tree" 1 F_law_tree := Gf.of D_law_tree (He.glo_ok X G (c.d.fact 24 rfl)) (fun _ _ _ _ _ _ us hl => match us, hl with | [_], _ => rfl) (b_law_tree D_law_tree hs g_law_take g_law_pick)
  have g_law_needs : Gf P w K mg base 6 "_law_needs" 2 F_law_needs := Gf.of D_law_needs (He.glo_ok X G (c.d.fact 25 rfl)) (fun _ _ _ _ _ _ us hl => match us, hl with | [_, _], _ => rfl) (b_law_needs D_law_needs hs g_answer)
  have g_law_is_round : Gf P w K mg base 7 "_law_is_round" 2 F_law_is_round := Gf.of D_law_is_round (He.glo_ok X G (c.d.fact 26 rfl)) (fun _ _ _ _ _ _ us hl => match us, hl with | [_, _], _ => rfl) (b_law_is_round D_law_is_round hs g_law_needs)
  exact b_law D_law hs g_law_feed g_law_tree g_answer g_law_is_round
end LW

open PySem PySem.W PySem.Calls PyProof.Rows
theorem PySem.Challenge.cw_twolistings_k55_whole_round_by_needs_holds : PySem.Challenge.rw_twolistings_k55_whole_round_by_needs.Holds := by
  w_on; o_law
  refine HandSHeadRun.head_any (r := OpenLaw.row PySem.Challenge.rw_twolistings_k55_whole_round_by_needs) (q := view (OpenLaw.row PySem.Challenge.rw_twolistings_k55_whole_round_by_needs).prog [21]) (H := LW.hk) (ob := LW.ob) (M := 4000) (loose := LW.loose) (d := HandSHeadRun.topDef (OpenLaw.row PySem.Challenge.rw_twolistings_k55_whole_round_by_needs).prog 21) (kwd := []) LW.ob_eq
    (by kernel_rfl) (fun s => by kernel_rfl) LW.run (by kernel_rfl) (by kernel_rfl) (by kernel_rfl) (by rfl) (by first | assumption | decide +kernel) (by decide +kernel) ⟨rfl, rfl, rfl, rfl, rfl, by decide +kernel⟩ ?hw ?hc
  case hw => w_witness2
  case hc =>
    refine DL.walk_ofG (l := PySem.Challenge.rw_twolistings_k55_whole_round_by_needs) (n := 63) (k := 8) (x := "script") rfl (by decide) (by kernel_rfl) ⟨rfl, by decide, by decide⟩ ?F
    intro w mg fa h Y G hmg0
    obtain ⟨K, KX, c⟩ := Y
    have hmg : mg ("law" : PySem.Str) = some (.ref fa) := by
      have e : (HandSHeadRun.topDef (OpenLaw.row PySem.Challenge.rw_twolistings_k55_whole_round_by_needs).prog 21).name = ("law" : PySem.Str) := by kernel_rfl
      rw [← e]
      exact hmg0
    obtain ⟨fd, hb, hF⟩ := LW.facts (P := (PySem.Challenge.rw_twolistings_k55_whole_round_by_needs).prog) (w := w) KX G hmg c
    exact ⟨K, fd, LW.F_law, KX, hb, fun ns hl => LW.math ns hl, hF⟩
