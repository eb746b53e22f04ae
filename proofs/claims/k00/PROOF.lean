import PyProof.Rows.All
import Wide.All
import OpenK.AllK
import Wide.FinOn
import HandS.ForMost
import HandS.Exc
import HandS.ExcOwn
import HandS.WordsExc
import HandS.IsInst
import HandS.Gcd
import HandS.Wide
import HandS.WideBits
import HandS.TupAny
import HandS.NoneIn
import HandS.Style
import HandS.TryOnly
import HandS.Zip
import KE.KStateDown
import HandS.Head0
import HandS.Head1
import HandS.Head2
import HandS.HeadHook1
import HandS.HeadHook2
import HandS.EndBits
import HandS.Head3
import PySem.Challenge.RW_wholeshapes_k00_fractions

section P_Ev0
set_option Elab.async false
set_option linter.all false
set_option maxRecDepth 100000
/-! Ev0: data behind values, owned slots, the relation of a pure environment to slots and heap. -/
namespace Ev
open PySem L2 PySem.Spec
open PyProof.Rows hiding St
set_option autoImplicit false
/-- data: what the library's PyData tells, and: a list that is read alone (ro), a def or class of the module by its name (fn) -/
inductive T where
  | none
  | bool (b : Bool)
  | int (i : Int)
  | str (s : PySem.Str)
  | list (xs : List T)
  | tuple (xs : List T)
  | dict (kvs : List (T × T))
  | ro (xs : List T)
  | fn (x : PySem.Str)
def keyT : Key → T
  | .inl i => .int i
  | .inr x => .str x
/-- what is fixed through a whole law: the written part, the module's names -/
structure Gk where
  K : PySem.W.Frag
  mg : PySem.Str → Option Value
/-- .. and through a def's body: where what was lent to it stands -/
structure KB where
  K : PySem.W.Frag
  β : Nat → Addr
instance : Coe KB PySem.W.Frag := ⟨KB.K⟩
/-- what is wanted of an exception; where what was lent stands -/
structure WB where
  w : WX
  β : Nat → Addr
instance : CoeFun WB (fun _ => WX) := ⟨WB.w⟩
def kb (g : Gk) (W : WB) : KB := ⟨g.K, W.β⟩

mutual
inductive Rp (K : PySem.W.Frag) (H : Hp) : V → T → Prop
  | non : Rp K H .non .none
  | bl (b : Bool) : Rp K H (.bl b) (.bool b)
  | int (i : Int) : Rp K H (.int i) (.int i)
  | str (x : PySem.Str) : Rp K H (.str x) (.str x)
  | lst {a : Addr} {xs : List V} {ds : List T} : H a = some (.lst xs) → RpL K H xs ds → Rp K H (.ref a) (.list ds)
  | ro {a : Addr} {xs : List V} {ds : List T} : SqL K H a xs → RpL K H xs ds → Rp K H (.ref a) (.ro ds)
  | tup {a : Addr} {xs : List V} {ds : List T} : SqT K H a xs → RpL K H xs ds → Rp K H (.ref a) (.tuple ds)
  | dct {a : Addr} {kvs : List (Key × V)} {ds : List (T × T)} : H a = some (.dK kvs) → RpKv K H kvs ds → Rp K H (.ref a) (.dict ds)
inductive RpL (K : PySem.W.Frag) (H : Hp) : List V → List T → Prop
  | nil : RpL K H [] []
  | cons {v : V} {vs : List V} {d : T} {ds : List T} : Rp K H v d → RpL K H vs ds → RpL K H (v :: vs) (d :: ds)
inductive RpKv (K : PySem.W.Frag) (H : Hp) : List (Key × V) → List (T × T) → Prop
  | nil : RpKv K H [] []
  | cons {k : Key} {v : V} {kvs : List (Key × V)} {d : T} {ds : List (T × T)} : Rp K H v d → RpKv K H kvs ds → RpKv K H ((k, v) :: kvs) ((keyT k, d) :: ds)
end

section
variable {K : PySem.W.Frag} {H H' : Hp}
theorem rd_mono {a : Addr} {u : HO} (e : Same H H') (h : Rd H a u) : Rd H' a u := by
  rcases h with h | ⟨o, h⟩
  · exact .inl (e _ _ h)
  · exact .inr ⟨o, e _ _ h⟩
theorem sqT_mono {a : Addr} {xs : List V} (e : Same H H') (h : SqT K H a xs) : SqT K H' a xs := by
  rcases h with (h | ⟨o, h⟩) | h
  · exact .inl (.inl (e _ _ h))
  · exact .inl (.inr ⟨o, e _ _ h⟩)
  · exact .inr h
mutual
theorem Rp.mono (e : Same H H') : ∀ {v : V} {t : T}, Rp K H v t → Rp K H' v t
  | _, _, .non => .non
  | _, _, .bl b => .bl b
  | _, _, .int i => .int i
  | _, _, .str x => .str x
  | _, _, .lst h r => .lst (e _ _ h) (RpL.mono e r)
  | _, _, .ro h r => .ro (e.seq h) (RpL.mono e r)
  | _, _, .tup h r => .tup (sqT_mono e h) (RpL.mono e r)
  | _, _, .dct h r => .dct (e _ _ h) (RpKv.mono e r)
theorem RpL.mono (e : Same H H') : ∀ {vs : List V} {ts : List T}, RpL K H vs ts → RpL K H' vs ts
  | _, _, .nil => .nil
  | _, _, .cons h r => .cons (Rp.mono e h) (RpL.mono e r)
theorem RpKv.mono (e : Same H H') : ∀ {vs : List (Key × V)} {ts : List (T × T)}, RpKv K H vs ts → RpKv K H' vs ts
  | _, _, .nil => .nil
  | _, _, .cons h r => .cons (Rp.mono e h) (RpKv.mono e r)
end
theorem RpL.length : ∀ {vs : List V} {ts : List T}, RpL K H vs ts → vs.length = ts.length
  | _, _, .nil => rfl
  | _, _, .cons _ r => by rw [List.length_cons, List.length_cons, RpL.length r]
theorem RpL.get : ∀ {vs : List V} {ts : List T} {i : Nat} {t : T}, RpL K H vs ts → ts[i]? = some t → ∃ v, vs[i]? = some v ∧ Rp K H v t
  | _, _, _, _, .nil, e => by simp at e
  | _, _, 0, _, .cons h _, e => by simp at e; subst e; exact ⟨_, rfl, h⟩
  | _, _, i + 1, t, .cons _ r, e => by
    obtain ⟨v, h1, h2⟩ := RpL.get (i := i) (t := t) r (by simpa using e)
    exact ⟨v, by simpa using h1, h2⟩
theorem RpL.getV : ∀ {vs : List V} {ts : List T} {i : Nat} {v : V}, RpL K H vs ts → vs[i]? = some v → ∃ t, ts[i]? = some t ∧ Rp K H v t
  | _, _, _, _, .nil, e => by simp at e
  | _, _, 0, _, .cons h _, e => by simp at e; subst e; exact ⟨_, rfl, h⟩
  | _, _, i + 1, t, .cons _ r, e => by
    obtain ⟨v, h1, h2⟩ := RpL.getV (i := i) (v := t) r (by simpa using e)
    exact ⟨v, by simpa using h1, h2⟩
theorem RpL.append : ∀ {vs ws : List V} {ts us : List T}, RpL K H vs ts → RpL K H ws us → RpL K H (vs ++ ws) (ts ++ us)
  | _, _, _, _, .nil, s => s
  | _, _, _, _, .cons h r, s => .cons h (RpL.append r s)
theorem RpL.set {v : V} {t : T} (q : Rp K H v t) : ∀ {vs : List V} {ts : List T} (i : Nat), RpL K H vs ts → RpL K H (vs.set i v) (ts.set i t)
  | _, _, _, .nil => .nil
  | _, _, 0, .cons _ r => .cons q r
  | _, _, i + 1, .cons h r => .cons h (RpL.set q i r)
theorem RpL.take : ∀ {vs : List V} {ts : List T} (n : Nat), RpL K H vs ts → RpL K H (vs.take n) (ts.take n)
  | _, _, 0, _ => .nil
  | _, _, _ + 1, .nil => .nil
  | _, _, n + 1, .cons h r => .cons h (RpL.take n r)
theorem RpL.drop : ∀ {vs : List V} {ts : List T} (n : Nat), RpL K H vs ts → RpL K H (vs.drop n) (ts.drop n)
  | _, _, 0, r => r
  | _, _, _ + 1, .nil => .nil
  | _, _, n + 1, .cons _ r => RpL.drop n r
end

/-- an object that one slot alone holds -/
inductive Ob where
  | lst (ts : List T)
  | dct (kvs : List (Key × T))
  | tg (j : Nat) (o : Ob)
def Ob.data : Ob → T
  | .tg _ o => o.data
  | .lst ts => .list ts
  | .dct kvs => .dict (kvs.map fun p => (keyT p.1, p.2))
inductive Sl where
  | non
  | v (t : T)
  | own (o : Ob)
abbrev Sls := List Sl
abbrev SetA := Addr → Prop
/-- an address that a slot owns -/
def SO (env : Sls) (σ : St) (p : Addr) : Prop := ∃ (i : Nat) (o : Ob), env[i]? = some (Sl.own o) ∧ σ[i]? = some (some (V.ref p))
open Classical in
noncomputable def hid (Z : SetA) (env : Sls) (σ : St) (H : Hp) : Hp := fun p => if Z p ∨ SO env σ p then none else H p
theorem hid_some {Z : SetA} {env : Sls} {σ : St} {H : Hp} {p : Addr} {o : HO} : hid Z env σ H p = some o ↔ (¬ Z p ∧ ¬ SO env σ p ∧ H p = some o) := by
  unfold hid
  split
  · rename_i h
    constructor
    · intro z; cases z
    · rintro ⟨a, b, _⟩; exact (h.elim a b).elim
  · rename_i h
    exact ⟨fun z => ⟨fun a => h (.inl a), fun a => h (.inr a), z⟩, fun z => z.2.2⟩
theorem hid_le {Z : SetA} {env : Sls} {σ : St} {H : Hp} : Same (hid Z env σ H) H := fun _ _ h => (hid_some.mp h).2.2

inductive KvR (K : PySem.W.Frag) (H : Hp) : List (Key × V) → List (Key × T) → Prop
  | nil : KvR K H [] []
  | cons {k : Key} {v : V} {kvs : List (Key × V)} {d : T} {ds : List (Key × T)} : Rp K H v d → KvR K H kvs ds → KvR K H ((k, v) :: kvs) ((k, d) :: ds)
theorem KvR.mono {K : PySem.W.Frag} {H H' : Hp} (e : Same H H') : ∀ {vs : List (Key × V)} {ts : List (Key × T)}, KvR K H vs ts → KvR K H' vs ts
  | _, _, .nil => .nil
  | _, _, .cons h r => .cons (h.mono e) (KvR.mono e r)
theorem KvR.data {K : PySem.W.Frag} {H : Hp} : ∀ {vs : List (Key × V)} {ts : List (Key × T)}, KvR K H vs ts → RpKv K H vs (ts.map fun p => (keyT p.1, p.2))
  | _, _, .nil => .nil
  | _, _, .cons h r => .cons h (KvR.data r)
/-- the object at a: its own cell read in H, what it holds in G -/
def RepOb (K : KB) (G H : Hp) (a : Addr) : Ob → Prop
  | .lst ts => ∃ vs, H a = some (.lst vs) ∧ RpL K G vs ts
  | .dct kvs => ∃ ws, H a = some (.dK ws) ∧ KvR K G ws kvs
  | .tg j o => a = K.β j ∧ RepOb K G H a o
theorem RepOb.mono {K : KB} {G G' H H' : Hp} {a : Addr} (e : Same G G') (ha : ∀ u, H a = some u → H' a = some u) : ∀ {o : Ob}, RepOb K G H a o → RepOb K G' H' a o
  | .lst ts, ⟨vs, h1, h2⟩ => ⟨vs, ha _ h1, h2.mono e⟩
  | .dct kvs, ⟨vs, h1, h2⟩ => ⟨vs, ha _ h1, h2.mono e⟩
  | .tg j o, ⟨h1, h2⟩ => ⟨h1, RepOb.mono (o := o) e ha h2⟩
theorem RepOb.dom {K : KB} {G H : Hp} {a : Addr} : ∀ {o : Ob}, RepOb K G H a o → ∃ u, H a = some u
  | .lst ts, ⟨vs, h1, _⟩ => ⟨_, h1⟩
  | .dct kvs, ⟨vs, h1, _⟩ => ⟨_, h1⟩
  | .tg j o, ⟨_, h⟩ => RepOb.dom (o := o) h
/-- read as data, where its own cell is seen too -/
theorem RepOb.rp {K : KB} {G H F : Hp} {a : Addr} (e : Same G F) (ha : ∀ u, H a = some u → F a = some u) : ∀ {o : Ob}, RepOb K G H a o → Rp K F (.ref a) o.data
  | .lst ts, ⟨vs, h1, h2⟩ => .lst (ha _ h1) (h2.mono e)
  | .dct kvs, ⟨vs, h1, h2⟩ => .dct (ha _ h1) (h2.mono e).data
  | .tg j o, ⟨_, h⟩ => RepOb.rp (o := o) e ha h

structure RepEnv (K : KB) (Z : SetA) (env : Sls) (σ : St) (H : Hp) : Prop where
  len : env.length = σ.length
  v : ∀ (i : Nat) (t : T), env[i]? = some (Sl.v t) → ∃ x : V, σ[i]? = some (some x) ∧ Rp K (hid Z env σ H) x t
  own : ∀ (i : Nat) (o : Ob), env[i]? = some (Sl.own o) → ∃ a : Addr, σ[i]? = some (some (V.ref a)) ∧ ¬ Z a ∧ RepOb K (hid Z env σ H) H a o
  inj : ∀ (i j : Nat) (o o' : Ob) (a : Addr), env[i]? = some (Sl.own o) → env[j]? = some (Sl.own o') → σ[i]? = some (some (V.ref a)) → σ[j]? = some (some (V.ref a)) → i = j
  zd : ∀ p, Z p → ∃ o, H p = some o

structure Post (K : KB) (Z : SetA) (env : Sls) (σ : St) (H : Hp) (Z' : SetA) (env' : Sls) (σ' : St) (H' : Hp) : Prop where
  rep : RepEnv K Z' env' σ' H'
  fr : ∀ p o, H p = some o → ¬ SO env σ p → H' p = some o
  dom : ∀ p o, H p = some o → ∃ o', H' p = some o'
  so : ∀ p, SO env' σ' p → SO env σ p ∨ H p = none
  zs : ∀ p, Z p → Z' p
  zn : ∀ p, Z' p → Z p ∨ H p = none

section
variable {K : KB} {Z Z' Z'' : SetA} {env env' env'' : Sls} {σ σ' σ'' : St} {H H' H'' : Hp}
theorem RepEnv.post (r : RepEnv K Z env σ H) : Post K Z env σ H Z env σ H :=
  ⟨r, fun _ _ h _ => h, fun _ o h => ⟨o, h⟩, fun _ h => .inl h, fun _ h => h, fun _ h => .inl h⟩
theorem RepEnv.so_dom (r : RepEnv K Z env σ H) {p : Addr} (h : SO env σ p) : ∃ o, H p = some o := by
  obtain ⟨i, o, h1, h2⟩ := h
  obtain ⟨a, h3, _, h4⟩ := r.own i o h1
  rw [h2] at h3; injection h3 with h3; injection h3 with h3; injection h3 with h3
  subst h3
  exact h4.dom
theorem RepEnv.z_so (r : RepEnv K Z env σ H) {p : Addr} (hz : Z p) : ¬ SO env σ p := by
  rintro ⟨i, o, h1, h2⟩
  obtain ⟨a, h3, h5, _⟩ := r.own i o h1
  rw [h2] at h3; injection h3 with h3; injection h3 with h3; injection h3 with h3
  subst h3
  exact h5 hz
theorem Post.none (p1 : Post K Z env σ H Z' env' σ' H') {p : Addr} (h : H' p = Option.none) : H p = Option.none := by
  cases q : H p with
  | none => rfl
  | some o =>
    obtain ⟨o', e⟩ := p1.dom p o q
    rw [h] at e; cases e
theorem Post.trans (p1 : Post K Z env σ H Z' env' σ' H') (p2 : Post K Z' env' σ' H' Z'' env'' σ'' H'') : Post K Z env σ H Z'' env'' σ'' H'' where
  rep := p2.rep
  fr := fun p o h hn => p2.fr p o (p1.fr p o h hn) fun z => (p1.so p z).elim hn fun z => by rw [h] at z; cases z
  dom := fun p o h => let ⟨o', e⟩ := p1.dom p o h; p2.dom p o' e
  so := fun p h => (p2.so p h).elim (p1.so p) fun z => .inr (p1.none z)
  zs := fun p h => p2.zs p (p1.zs p h)
  zn := fun p h => (p2.zn p h).elim (p1.zn p) fun z => .inr (p1.none z)
/-- what is seen stays seen -/
theorem Post.same (p1 : Post K Z env σ H Z' env' σ' H') : Same (hid Z env σ H) (hid Z' env' σ' H') := fun p o h => by
  obtain ⟨h1, h2, h3⟩ := hid_some.mp h
  refine hid_some.mpr ⟨fun z => ?_, fun z => ?_, p1.fr p o h3 h2⟩
  · rcases p1.zn p z with z | z
    · exact h1 z
    · rw [h3] at z; cases z
  · rcases p1.so p z with z | z
    · exact h2 z
    · rw [h3] at z; cases z
/-- forget what was hidden -/
theorem hid_lessZ (hz : ∀ p, Z p → Z' p) : Same (hid Z' env σ H) (hid Z env σ H) := fun p o h => by
  obtain ⟨h1, h2, h3⟩ := hid_some.mp h
  exact hid_some.mpr ⟨fun z => h1 (hz p z), h2, h3⟩
theorem RepEnv.lessZ (r : RepEnv K Z' env σ H) (hz : ∀ p, Z p → Z' p) : RepEnv K Z env σ H where
  len := r.len
  v := fun i t h => let ⟨x, h1, h2⟩ := r.v i t h; ⟨x, h1, h2.mono (hid_lessZ hz)⟩
  own := fun i o h => let ⟨a, h1, h2, h3⟩ := r.own i o h; ⟨a, h1, fun z => h2 (hz a z), h3.mono (hid_lessZ hz) fun _ e => e⟩
  inj := r.inj
  zd := fun p h => r.zd p (hz p h)
theorem Post.lessZ (p1 : Post K Z env σ H Z' env' σ' H') : Post K Z env σ H Z env' σ' H' :=
  ⟨p1.rep.lessZ p1.zs, p1.fr, p1.dom, p1.so, fun _ h => h, fun _ h => .inl h⟩
end

/-! ### results -/
inductive Vw where
  | v (t : T)
  | sl (i : Nat)
  | fr (o : Ob)
structure Exc where
  cls : PySem.Str
  val : T
inductive R (α : Type) where
  | ok (a : α) (e : Sls)
  | er (x : Exc) (e : Sls)
  | no
abbrev M (α : Type) := Sls → R α
def R.bind {α β : Type} (r : R α) (f : α → M β) : R β := match r with
  | .ok a e => f a e
  | .er x e => .er x e
  | .no => .no
def M.bind {α β : Type} (m : M α) (f : α → M β) : M β := fun e => (m e).bind f
def M.pure {α : Type} (a : α) : M α := fun e => .ok a e
def look (r : Vw) (e : Sls) : Option T := match r with
  | .v t => some t
  | .fr o => some o.data
  | .sl i => match e[i]? with
    | some (.own o) => some o.data
    | some (.v t) => some t
    | _ => none
/-- as plain data: an owned object is let go -/
def toT (r : Vw) : M T := fun e => match r with
  | .v t => .ok t e
  | .fr o => .ok o.data e
  | .sl i => match e[i]? with
    | some (.own o) => .ok o.data (e.set i (.v o.data))
    | some (.v t) => .ok t e
    | _ => .no
/-- a slot that has something -/
def Full (env : Sls) (i : Nat) : Prop := (∃ o, env[i]? = some (Sl.own o)) ∨ ∃ t, env[i]? = some (Sl.v t)
def Kp (env env' : Sls) : Prop := ∀ i, Full env i → Full env' i
def RR (K : KB) (Z : SetA) (env : Sls) (σ : St) (H0 H : Hp) (r : Vw) (x : V) : Prop := match r with
  | .v t => Rp K (hid Z env σ H) x t
  | .sl i => σ[i]? = some (some x) ∧ Full env i
  | .fr o => ∃ a, x = V.ref a ∧ H0 a = none ∧ Z a ∧ RepOb K (hid Z env σ H) H a o
section
variable {K : KB} {Z Z' Z'' : SetA} {env env' env'' : Sls} {σ : St} {H0 H H' H'' : Hp} {r : Vw} {x : V} {t : T}
theorem RR.step (h : RR K Z env σ H0 H r x) (rE : RepEnv K Z env σ H) (p : Post K Z env σ H Z' env' σ H') (k : Kp env env') : RR K Z' env' σ H0 H' r x := by
  cases r with
  | v t => exact Rp.mono p.same h
  | sl i => exact ⟨h.1, k i h.2⟩
  | fr o =>
    obtain ⟨a, rfl, h1, h2, h3⟩ := h
    exact ⟨a, rfl, h1, p.zs a h2, h3.mono p.same fun u e => p.fr a u e (rE.z_so h2)⟩
/-- what it looks like now -/
theorem RR.look (h : RR K Z env σ H0 H r x) (rE : RepEnv K Z env σ H) (hl : look r env = some t) : Rp K H x t := by
  cases r with
  | v t => injection hl with e; subst e; exact Rp.mono hid_le h
  | sl i =>
    obtain ⟨h1, h2 | h2⟩ := h
    · obtain ⟨o, h2⟩ := h2
      simp only [Ev.look, h2] at hl
      injection hl with e; subst e
      obtain ⟨a, h3, _, h4⟩ := rE.own i o h2
      rw [h1] at h3; injection h3 with h3; injection h3 with h3; subst h3
      exact h4.rp hid_le fun _ e => e
    · obtain ⟨u, h2⟩ := h2
      simp only [Ev.look, h2] at hl
      injection hl with e; subst e
      obtain ⟨y, h3, h4⟩ := rE.v i u h2
      rw [h1] at h3; injection h3 with h3; injection h3 with h3; subst h3
      exact Rp.mono hid_le h4
  | fr o =>
    obtain ⟨a, rfl, h1, h2, h3⟩ := h
    injection hl with e; subst e
    exact h3.rp hid_le fun _ e => e
theorem Kp.refl : Kp env env := fun _ h => h
theorem Kp.trans (a : Kp env env') (b : Kp env' env'') : Kp env env'' := fun i h => b i (a i h)
theorem RR.start {H1 : Hp} (h : RR K Z env σ H1 H r x) (hd : ∀ p, H1 p = none → H0 p = none) : RR K Z env σ H0 H r x := by
  cases r with
  | v t => exact h
  | sl i => exact h
  | fr o => obtain ⟨a, e, h1, h2⟩ := h; exact ⟨a, e, hd a h1, h2⟩
end

/-! ### the readings -/
/-- an exception of a class of the module's: its value -/
def RX (g : Gk) (G : Hp) (x : Exc) (cls : Value) (d : Option Addr) (H : Hp) : Prop :=
  ∃ C dx v, cls = .ref C ∧ g.mg x.cls = some (.ref C) ∧ d = some dx ∧ H dx = some (.xd [("value", v)]) ∧ Rp g.K G v x.val
theorem RX.mono {g : Gk} {G G' : Hp} {x : Exc} {cls : Value} {d : Option Addr} {H : Hp} (h : RX g G x cls d H) (e : Same G G') : RX g G' x cls d H :=
  let ⟨C, dx, v, h1, h2, h3, h4, h5⟩ := h
  ⟨C, dx, v, h1, h2, h3, h4, h5.mono e⟩

/-- how a result lies: over hidden cells, slots, the heap at the start, the heap now -/
abbrev Rel (α β : Type) := SetA → Sls → Hp → Hp → α → β → Prop
/-- what follows a result -/
def Out {α β : Type} (g : Gk) (W : WB) (L : Rel α β) (σ : St) (Q : β → Hp → Prop) (Z : SetA) (env : Sls) (H : Hp) : R α → Prop
  | .ok r env' => ∀ x H' Z', Post (kb g W) Z env σ H Z' env' σ H' → Kp env env' → L Z' env' H H' r x → Q x H'
  | .er x env' => ∀ cls d H', Post (kb g W) Z env σ H Z env' σ H' → RX g (hid Z env' σ H') x cls d H' → W cls d σ H'
  | .no => False
/-- no new object of the rest stands at a -/
def NoFr (a : Addr) (rs : List Vw) (xs : List V) : Prop := ∀ (k : Nat) (o : Ob), rs[k]? = some (Vw.fr o) → xs[k]? ≠ some (V.ref a)
inductive RRs (K : KB) (Z : SetA) (env : Sls) (σ : St) (H0 H : Hp) : List Vw → List V → Prop
  | nil : RRs K Z env σ H0 H [] []
  | cons {r : Vw} {x : V} {rs : List Vw} {xs : List V} : RR K Z env σ H0 H r x → RRs K Z env σ H0 H rs xs → (∀ o a, r = .fr o → x = V.ref a → NoFr a rs xs) → RRs K Z env σ H0 H (r :: rs) (x :: xs)
abbrev LE (K : KB) (σ : St) : Rel Vw V := fun Z env H0 H r x => RR K Z env σ H0 H r x
abbrev LA (K : KB) (σ : St) : Rel (List Vw) (List V) := fun Z env H0 H r x => RRs K Z env σ H0 H r x
abbrev LB : Rel Bool Bool := fun _ _ _ _ b c => b = c
theorem RRs.start {K : KB} {Z : SetA} {env : Sls} {σ : St} {H0 H1 H : Hp} (hd : ∀ p, H1 p = none → H0 p = none) : ∀ {rs : List Vw} {xs : List V}, RRs K Z env σ H1 H rs xs → RRs K Z env σ H0 H rs xs
  | _, _, .nil => .nil
  | _, _, .cons h r n => .cons (h.start hd) (RRs.start hd r) n
theorem RRs.step {K : KB} {Z Z' : SetA} {env env' : Sls} {σ : St} {H0 H H' : Hp} (rE : RepEnv K Z env σ H) (p : Post K Z env σ H Z' env' σ H') (k : Kp env env') :
    ∀ {rs : List Vw} {xs : List V}, RRs K Z env σ H0 H rs xs → RRs K Z' env' σ H0 H' rs xs
  | _, _, .nil => .nil
  | _, _, .cons h r n => .cons (h.step rE p k) (RRs.step rE p k r) n
/-- a relation that may be told from an earlier start -/
class Back {α β : Type} (L : Rel α β) : Prop where
  start : ∀ {Z env H0 H1 H r x}, L Z env H1 H r x → (∀ p, H1 p = none → H0 p = none) → L Z env H0 H r x
instance {K : KB} {σ : St} : Back (LE K σ) := ⟨fun h hd => RR.start h hd⟩
instance {K : KB} {σ : St} : Back (LA K σ) := ⟨fun h hd => RRs.start hd h⟩
instance : Back LB := ⟨fun h _ => h⟩

def tE (g : Gk) (W : WB) (m : M Vw) : TE := fun σ H Q => ∃ Z env, RepEnv (kb g W) Z env σ H ∧ Out g W (LE (kb g W) σ) σ Q Z env H (m env)
def tT (g : Gk) (W : WB) (m : M Bool) : TT := fun σ H Q => ∃ Z env, RepEnv (kb g W) Z env σ H ∧ Out g W LB σ Q Z env H (m env)
def tA (g : Gk) (W : WB) (m : M (List Vw)) : TA := fun σ H Q => ∃ Z env, RepEnv (kb g W) Z env σ H ∧ Out g W (LA (kb g W) σ) σ Q Z env H (m env)
inductive Fl where
  | nx
  | bk
  | ct
  | rt (r : Vw)
abbrev MS := M Fl
def OutS (g : Gk) (W : WB) (D : Ends) (σ : St) (Z : SetA) (env : Sls) (H : Hp) : R Fl → Prop
  | .ok .nx env' => ∀ σ' H' Z', Post (kb g W) Z env σ H Z' env' σ' H' → D.nx σ' H'
  | .ok .bk env' => ∀ σ' H' Z', Post (kb g W) Z env σ H Z' env' σ' H' → D.bk σ' H'
  | .ok .ct env' => ∀ σ' H' Z', Post (kb g W) Z env σ H Z' env' σ' H' → D.ct σ' H'
  | .ok (.rt r) env' => ∀ x σ' H' Z', Post (kb g W) Z env σ H Z' env' σ' H' → RR (kb g W) Z' env' σ' H H' r x → D.rt x H'
  | .er x env' => ∀ cls d σ' H', Post (kb g W) Z env σ H Z env' σ' H' → RX g (hid Z env' σ' H') x cls d H' → W cls d σ' H'
  | .no => False
def tS (g : Gk) (W : WB) (m : MS) : TS := fun D σ H => ∃ Z env, RepEnv (kb g W) Z env σ H ∧ OutS g W D σ Z env H (m env)

/-- what may follow: it hears of exceptions, it is never stuck, it may be told from a later point -/
structure Ct {γ : Type} (g : Gk) (W : WB) (σ : St) (C : SetA → Sls → Hp → R γ → Prop) : Prop where
  er : ∀ {Z env H x env'}, C Z env H (.er x env') → ∀ cls d H', Post (kb g W) Z env σ H Z env' σ H' → RX g (hid Z env' σ H') x cls d H' → W cls d σ H'
  no : ∀ {Z env H}, ¬ C Z env H .no
  step : ∀ {Z env H Z1 env1 H1 r}, Post (kb g W) Z env σ H Z1 env1 σ H1 → Kp env env1 → C Z env H r → C Z1 env1 H1 r
section
variable {g : Gk} {W : WB} {σ : St} {Z Z' Z1 : SetA} {env env' env1 : Sls} {H H' H1 : Hp}
theorem Out.ct {α β : Type} {L : Rel α β} [Back L] {Q : β → Hp → Prop} : Ct g W σ (Out g W L σ Q) where
  er := fun h => h
  no := fun h => h
  step := fun {Z env H Z1 env1 H1 r} p k h => by
    cases r with
    | ok r e => exact fun x H' Z' p' k' l => h x H' Z' (p.trans p') (k.trans k') (Back.start l fun _ => p.none)
    | er x e => exact fun cls d H' p' rx => h cls d H' (p.trans p').lessZ (rx.mono (hid_lessZ p.zs))
    | no => exact h
theorem OutS.ct {D : Ends} : Ct g W σ (OutS g W D σ) where
  er := fun h cls d H' p rx => h cls d σ H' p rx
  no := fun h => h
  step := fun {Z env H Z1 env1 H1 r} p k h => by
    cases r with
    | ok r e =>
      cases r with
      | nx => exact fun σ' H' Z' p' => h σ' H' Z' (p.trans p')
      | bk => exact fun σ' H' Z' p' => h σ' H' Z' (p.trans p')
      | ct => exact fun σ' H' Z' p' => h σ' H' Z' (p.trans p')
      | rt r => exact fun x σ' H' Z' p' l => h x σ' H' Z' (p.trans p') (l.start fun _ => p.none)
    | er x e => exact fun cls d σ' H' p' rx => h cls d σ' H' (p.trans p').lessZ (rx.mono (hid_lessZ p.zs))
    | no => exact h
/-- a part, then the rest -/
theorem Ct.bind {α β γ : Type} {L : Rel α β} {C : SetA → Sls → Hp → R γ → Prop} (c : Ct g W σ C) {m : R α} {k : α → M γ} (h : C Z env H (m.bind k)) :
    Out g W L σ (fun x H1 => ∃ Z1 env1 r, Post (kb g W) Z env σ H Z1 env1 σ H1 ∧ Kp env env1 ∧ L Z1 env1 H H1 r x ∧ C Z1 env1 H1 (k r env1)) Z env H m := by
  cases m with
  | ok r e => exact fun x H1 Z1 p k1 l => ⟨Z1, e, r, p, k1, l, c.step p k1 h⟩
  | er x e => exact c.er h
  | no => exact c.no h
theorem Out.mono {α β : Type} {L : Rel α β} {Q Q' : β → Hp → Prop} {r : R α} (h : Out g W L σ Q Z env H r) (hq : ∀ x H, Q x H → Q' x H) : Out g W L σ Q' Z env H r := by
  cases r with
  | ok r e => exact fun x H1 Z1 p k l => hq _ _ (h x H1 Z1 p k l)
  | er x e => exact h
  | no => exact h
end

def _root_.L2.Cx.g (X : Cx) : Gk := ⟨X.K, X.mg⟩
abbrev XE (X : Cx) (W : WB) (e : Expr) (m : M Vw) : Prop := PE X e (tE X.g W m)
abbrev XT (X : Cx) (W : WB) (e : Expr) (m : M Bool) : Prop := PT X e (tT X.g W m)
abbrev XW (X : Cx) (W : WB) (e : Expr) (m : M Bool) : Prop := PW X e (tT X.g W m)
abbrev XA (X : Cx) (W : WB) (es : List Expr) (m : M (List Vw)) : Prop := PA X es (tA X.g W m)
abbrev XS (X : Cx) (W : WB) (st : Stmt) (m : MS) : Prop := PS X st (tS X.g W m)
abbrev XSs (X : Cx) (W : WB) (st : List Stmt) (m : MS) : Prop := PSs X st (tS X.g W m)
theorem _root_.L2.PE.weak {X : Cx} {e : Expr} {t t' : TE} (h : PE X e t) (w : ∀ σ H Q, t' σ H Q → t σ H Q) : PE X e t' := ⟨fun pins s σ H Q I q => h.run pins s σ H Q I (w σ H Q q)⟩
theorem _root_.L2.PT.weak {X : Cx} {e : Expr} {t t' : TT} (h : PT X e t) (w : ∀ σ H Q, t' σ H Q → t σ H Q) : PT X e t' := ⟨fun pins s σ H Q I q => h.run pins s σ H Q I (w σ H Q q)⟩
theorem _root_.L2.PW.weak {X : Cx} {e : Expr} {t t' : TT} (h : PW X e t) (w : ∀ σ H Q, t' σ H Q → t σ H Q) : PW X e t' := ⟨fun wh pins s σ H Q I q => h.run wh pins s σ H Q I (w σ H Q q)⟩
theorem _root_.L2.PA.weak {X : Cx} {es : List Expr} {t t' : TA} (h : PA X es t) (w : ∀ σ H Q, t' σ H Q → t σ H Q) : PA X es t' := ⟨fun pos pins s σ H Q I q => h.run pos pins s σ H Q I (w σ H Q q)⟩
theorem _root_.L2.PS.weak {X : Cx} {st : Stmt} {t t' : TS} (h : PS X st t) (w : ∀ D σ H, t' D σ H → t D σ H) : PS X st t' := ⟨fun pins s σ H D I q => h.run pins s σ H D I (w D σ H q)⟩
theorem _root_.L2.PSs.weak {X : Cx} {st : List Stmt} {t t' : TS} (h : PSs X st t) (w : ∀ D σ H, t' D σ H → t D σ H) : PSs X st t' := ⟨fun pins s σ H D I q => h.run pins s σ H D I (w D σ H q)⟩

/-! ### just-made values -/
/-- the top read in H, what it holds in G -/
inductive Rp1 (K : PySem.W.Frag) (G H : Hp) : V → T → Prop
  | non : Rp1 K G H .non .none
  | bl (b : Bool) : Rp1 K G H (.bl b) (.bool b)
  | int (i : Int) : Rp1 K G H (.int i) (.int i)
  | str (x : PySem.Str) : Rp1 K G H (.str x) (.str x)
  | lst {a : Addr} {xs : List V} {ds : List T} : H a = some (.lst xs) → RpL K G xs ds → Rp1 K G H (.ref a) (.list ds)
  | ro {a : Addr} {xs : List V} {ds : List T} : SqL K H a xs → RpL K G xs ds → Rp1 K G H (.ref a) (.ro ds)
  | tup {a : Addr} {xs : List V} {ds : List T} : SqT K G a xs → RpL K G xs ds → Rp1 K G H (.ref a) (.tuple ds)
  | dct {a : Addr} {kvs : List (Key × V)} {ds : List (T × T)} : H a = some (.dK kvs) → RpKv K G kvs ds → Rp1 K G H (.ref a) (.dict ds)
section
variable {K : PySem.W.Frag} {G H : Hp} {v : V} {t : T}
theorem Rp.one (h : Rp K G v t) (e : Same G H) : Rp1 K G H v t := by
  cases h with
  | non => exact .non
  | bl b => exact .bl b
  | int i => exact .int i
  | str x => exact .str x
  | lst a b => exact .lst (e _ _ a) b
  | ro a b => exact .ro (e.seq a) b
  | tup a b => exact .tup a b
  | dct a b => exact .dct (e _ _ a) b
theorem Rp1.rp (h : Rp1 K G H v t) (e : Same G H) : Rp K H v t := by
  cases h with
  | non => exact .non
  | bl b => exact .bl b
  | int i => exact .int i
  | str x => exact .str x
  | lst a b => exact .lst a (b.mono e)
  | ro a b => exact .ro a (b.mono e)
  | tup a b => exact .tup (sqT_mono e a) (b.mono e)
  | dct a b => exact .dct a (b.mono e)
theorem RepOb.one {K : KB} {a : Addr} : ∀ {o : Ob}, RepOb K G H a o → Rp1 K G H (.ref a) o.data
  | .lst ts, ⟨vs, h1, h2⟩ => .lst h1 h2
  | .dct kvs, ⟨vs, h1, h2⟩ => .dct h1 h2.data
  | .tg j o, ⟨_, h⟩ => RepOb.one (o := o) h
end
section
variable {K : KB} {Z : SetA} {env : Sls} {σ : St} {H0 H : Hp} {r : Vw} {x : V} {t : T}
theorem RR.look1 (h : RR K Z env σ H0 H r x) (rE : RepEnv K Z env σ H) (hl : Ev.look r env = some t) : Rp1 K (hid Z env σ H) H x t := by
  cases r with
  | v t => injection hl with e; subst e; exact Rp.one h hid_le
  | sl i =>
    obtain ⟨h1, h2 | h2⟩ := h
    · obtain ⟨o, h2⟩ := h2
      simp only [Ev.look, h2] at hl
      injection hl with e; subst e
      obtain ⟨a, h3, _, h4⟩ := rE.own i o h2
      rw [h1] at h3; injection h3 with h3; injection h3 with h3; subst h3
      exact h4.one
    · obtain ⟨u, h2⟩ := h2
      simp only [Ev.look, h2] at hl
      injection hl with e; subst e
      obtain ⟨y, h3, h4⟩ := rE.v i u h2
      rw [h1] at h3; injection h3 with h3; injection h3 with h3; subst h3
      exact Rp.one h4 hid_le
  | fr o =>
    obtain ⟨a, rfl, h1, h2, h3⟩ := h
    injection hl with e; subst e
    exact h3.one
end
/-- a just-made value -/
def New (K : KB) (G H H' : Hp) (w : Vw) (z : V) : Prop := match w with
  | .v t => Same H H' ∧ ∀ G', Same G G' → (∀ p o, H p = none → H' p = some o → G' p = some o) → Rp K G' z t
  | .fr ob => Same H H' ∧ ∃ a, z = V.ref a ∧ H a = none ∧ RepOb K G H' a ob
  | .sl _ => False
/-- a value without parts -/
theorem New.sc {K : KB} {G H : Hp} {t : T} {z : V} (h : ∀ G', Rp K G' z t) : New K G H H (.v t) z := ⟨fun _ _ e => e, fun G' _ _ => h G'⟩
/-- it comes out -/
theorem Out.made {g : Gk} {W : WB} {σ : St} {Q : V → Hp → Prop} {Z : SetA} {env : Sls} {H H' : Hp} {w : Vw} {z : V} (h : Out g W (LE (kb g W) σ) σ Q Z env H (.ok w env)) (rE : RepEnv (kb g W) Z env σ H) (n : New (kb g W) (hid Z env σ H) H H' w z) : Q z H' := by
  cases w with
  | v t =>
    obtain ⟨sm, hr⟩ := n
    have s1 : Same (hid Z env σ H) (hid Z env σ H') := fun p o e => by
      obtain ⟨h1, h2, h3⟩ := hid_some.mp e
      exact hid_some.mpr ⟨h1, h2, sm _ _ h3⟩
    refine h z H' Z ⟨⟨rE.len, fun i t e => ?_, fun i o e => ?_, rE.inj, fun p hz => ?_⟩, fun p o e _ => sm p o e, fun p o e => ⟨o, sm p o e⟩, fun _ e => .inl e, fun _ e => e, fun _ e => .inl e⟩ Kp.refl ?_
    · obtain ⟨x, h1, h2⟩ := rE.v i t e; exact ⟨x, h1, h2.mono s1⟩
    · obtain ⟨a, h1, h2, h3⟩ := rE.own i o e; exact ⟨a, h1, h2, h3.mono s1 fun u e => sm a u e⟩
    · obtain ⟨o, e⟩ := rE.zd p hz; exact ⟨o, sm p o e⟩
    · refine hr _ s1 fun p o e1 e2 => hid_some.mpr ⟨fun hz => ?_, fun so => ?_, e2⟩
      · obtain ⟨o', e⟩ := rE.zd p hz; rw [e1] at e; cases e
      · obtain ⟨o', e⟩ := rE.so_dom so; rw [e1] at e; cases e
  | fr ob =>
    obtain ⟨sm, a, rfl, ha, hr⟩ := n
    have nso : ¬ SO env σ a := fun so => by obtain ⟨o', e⟩ := rE.so_dom so; rw [ha] at e; cases e
    have s1 : Same (hid Z env σ H) (hid (fun p => Z p ∨ p = a) env σ H') := fun p o e => by
      obtain ⟨h1, h2, h3⟩ := hid_some.mp e
      refine hid_some.mpr ⟨fun z => z.elim h1 fun z => ?_, h2, sm _ _ h3⟩
      subst z; rw [ha] at h3; cases h3
    refine h (.ref a) H' (fun p => Z p ∨ p = a) ⟨⟨rE.len, fun i t e => ?_, fun i o e => ?_, rE.inj, fun p hz => ?_⟩, fun p o e _ => sm p o e, fun p o e => ⟨o, sm p o e⟩, fun _ e => .inl e, fun _ e => .inl e, fun p e => ?_⟩ Kp.refl ?_
    · obtain ⟨x, h1, h2⟩ := rE.v i t e; exact ⟨x, h1, h2.mono s1⟩
    · obtain ⟨b, h1, h2, h3⟩ := rE.own i o e
      refine ⟨b, h1, fun z => z.elim h2 fun z => ?_, h3.mono s1 fun u e => sm b u e⟩
      subst z; exact nso ⟨i, o, e, h1⟩
    · rcases hz with hz | rfl
      · obtain ⟨o, e⟩ := rE.zd p hz; exact ⟨o, sm p o e⟩
      · exact hr.dom
    · rcases e with e | rfl
      · exact .inl e
      · exact .inr ha
    · exact ⟨a, rfl, ha, .inr rfl, hr.mono s1 fun _ e => e⟩
  | sl i => exact n.elim
end Ev
end P_Ev0

section P_Ev1
set_option Elab.async false
set_option linter.all false
set_option maxRecDepth 100000
/-! Ev1: expressions. -/
namespace Ev
open PySem L2 PySem.Spec
open PyProof.Rows hiding St
set_option autoImplicit false

/-! ### the combinators -/
def lk (r : Vw) : M T := fun e => match look r e with
  | some t => .ok t e
  | none => .no
def opt {α : Type} (o : Option α) : M α := fun e => match o with
  | some a => .ok a e
  | none => .no
def mVar (i : Nat) : M Vw := fun e => match e[i]? with
  | some (.own _) => .ok (.sl i) e
  | some (.v t) => .ok (.v t) e
  | _ => .no
def mK (t : T) : M Vw := fun e => .ok (.v t) e
def mOp (f : T → T → Option Vw) (A B : M Vw) : M Vw := A.bind fun a => B.bind fun b => (lk a).bind fun s => (lk b).bind fun t => opt (f s t)
def mUn (f : T → Option Vw) (A : M Vw) : M Vw := A.bind fun a => (lk a).bind fun s => opt (f s)
def lks : List Vw → M (List T)
  | [] => fun e => .ok [] e
  | r :: rs => (lk r).bind fun t => (lks rs).bind fun ts e => .ok (t :: ts) e
def mNil : M (List Vw) := fun e => .ok [] e
def mCons (A : M Vw) (B : M (List Vw)) : M (List Vw) := A.bind fun a => B.bind fun bs e => .ok (a :: bs) e
/-- a built-in function of values -/
def mB (f : List T → Option Vw) (A : M (List Vw)) : M Vw := A.bind fun as => (lks as).bind fun ts => opt (f ts)
def mTest (A : M Vw) : M Bool := A.bind fun a => (lk a).bind fun t e => match t with
  | .bool b => .ok b e
  | _ => .no
/-- to plain data, one by one -/
def toTs : List Vw → M (List T)
  | [] => fun e => .ok [] e
  | r :: rs => (toT r).bind fun t => (toTs rs).bind fun ts e => .ok (t :: ts) e

theorem lk_some {β : Type} {r : Vw} {env : Sls} {t : T} {f : T → M β} (h : look r env = some t) : (lk r).bind f env = f t env := by
  show R.bind (lk r env) f = _
  unfold lk; rw [h]; rfl
theorem lk_none {β : Type} {r : Vw} {env : Sls} {f : T → M β} (h : look r env = Option.none) : (lk r).bind f env = .no := by
  show R.bind (lk r env) f = _
  unfold lk; rw [h]; rfl
section
variable {g : Gk} {W : WB} {σ : St} {Z Z1 : SetA} {env env1 : Sls} {H H0 H1 : Hp}
theorem M.bind_def {α β : Type} (m : M α) (f : α → M β) (e : Sls) : (m.bind f) e = (m e).bind f := rfl

/-! ### names, constants -/
theorem rd_var {i : Nat} {Q : VK} (h : tE g W (mVar i) σ H Q) : tVar i σ H Q := by
  obtain ⟨Z, env, rE, h⟩ := h
  unfold mVar at h
  cases e : env[i]? with
  | none => rw [e] at h; exact h.elim
  | some s =>
    rw [e] at h
    cases s with
    | non => exact h.elim
    | own o =>
      obtain ⟨a, h1, h2, h3⟩ := rE.own i o e
      exact ⟨_, h1, h _ H Z rE.post Kp.refl ⟨h1, .inl ⟨o, e⟩⟩⟩
    | v t =>
      obtain ⟨x, h1, h2⟩ := rE.v i t e
      exact ⟨_, h1, h _ H Z rE.post Kp.refl h2⟩
theorem xv (X : Cx) (W : WB) (i : Nat) {x : Str} {pos : Pos} (hN : X.N[i]? = some x := by rfl) (hv : Vis X.env.scope x := by first | exact Or.inl rfl | exact Or.inr (Or.inl rfl) | exact Or.inr (Or.inr rfl)) (hd : (x == ("__debug__" : Str)) = false := by decide)
    (hcd : (x == ("__classdict__" : Str)) = false := by decide) : XE X W (.Name x pos) (mVar i) := (pe_var hN hv hd hcd).weak fun _ _ _ => rd_var
theorem rd_k {t : T} {z : V} {Q : VK} (hz : ∀ (K : PySem.W.Frag) G, Rp K G z t) (h : tE g W (mK t) σ H Q) : tC z σ H Q := by
  obtain ⟨Z, env, rE, h⟩ := h
  exact h z H Z rE.post Kp.refl (hz _ _)
variable {X : Cx}
theorem xint {i j pos} : XE X W (.Constant (.int i) j pos) (mK (.int i)) := pe_int.weak fun _ _ _ => rd_k fun _ _ => .int i
theorem xbl {b j pos} : XE X W (.Constant (.bool b) j pos) (mK (.bool b)) := pe_bl.weak fun _ _ _ => rd_k fun _ _ => .bl b
theorem xnon {j pos} : XE X W (.Constant .none j pos) (mK .none) := pe_non.weak fun _ _ _ => rd_k fun _ _ => .non
theorem xstr {x j pos} : XE X W (.Constant (.str x) j pos) (mK (.str x)) := pe_str.weak fun _ _ _ => rd_k fun _ _ => .str x

/-! ### operators -/
/-- a rule on values tells what f tells -/
def OpS (K : KB) (r : R2) (f : T → T → Option Vw) : Prop :=
  ∀ {G H : Hp} {x y : V} {s t : T} {w : Vw} {Q : VK}, Same G H → Rp1 K G H x s → Rp1 K G H y t → f s t = some w → (∀ z H', New K G H H' w z → Q z H') → r x y H Q
def UnS (K : KB) (r : V → Hp → VK → Prop) (f : T → Option Vw) : Prop :=
  ∀ {G H : Hp} {x : V} {s : T} {w : Vw} {Q : VK}, Same G H → Rp1 K G H x s → f s = some w → (∀ z H', New K G H H' w z → Q z H') → r x H Q
inductive Rp1s (K : PySem.W.Frag) (G H : Hp) : List V → List T → Prop
  | nil : Rp1s K G H [] []
  | cons {v : V} {vs : List V} {d : T} {ds : List T} : Rp1 K G H v d → Rp1s K G H vs ds → Rp1s K G H (v :: vs) (d :: ds)
def CaS (K : KB) (r : List V → Hp → VK → Prop) (f : List T → Option Vw) : Prop :=
  ∀ {G H : Hp} {xs : List V} {ts : List T} {w : Vw} {Q : VK}, Same G H → Rp1s K G H xs ts → f ts = some w → (∀ z H', New K G H H' w z → Q z H') → r xs H Q

theorem rd_op {r : R2} {f : T → T → Option Vw} (hs : OpS (kb g W) r f) {A B : M Vw} {Q : VK} (h : tE g W (mOp f A B) σ H Q) : tOp r (tE g W A) (tE g W B) σ H Q := by
  obtain ⟨Z, env, rE, h⟩ := h
  refine ⟨Z, env, rE, (Out.ct.bind h).mono fun x H1 ⟨Z1, env1, a, p1, k1, l1, c1⟩ => ?_⟩
  refine ⟨Z1, env1, p1.rep, (Out.ct.bind c1).mono fun y H2 ⟨Z2, env2, b, p2, k2, l2, c2⟩ => ?_⟩
  have l1' := l1.step p1.rep p2 k2
  cases ea : look a env2 with
  | none => rw [lk_none ea] at c2; exact c2.elim
  | some s =>
    rw [lk_some ea] at c2
    cases eb : look b env2 with
    | none => rw [lk_none eb] at c2; exact c2.elim
    | some t =>
      rw [lk_some eb] at c2
      unfold opt at c2
      cases ef : f s t with
      | none => rw [ef] at c2; exact c2.elim
      | some w =>
        rw [ef] at c2
        exact hs hid_le (l1'.look1 p2.rep ea) (l2.look1 p2.rep eb) ef fun z H' n => Out.made c2 p2.rep n
theorem rd_un {r : V → Hp → VK → Prop} {f : T → Option Vw} (hs : UnS (kb g W) r f) {A : M Vw} {Q : VK} (h : tE g W (mUn f A) σ H Q) : tUn r (tE g W A) σ H Q := by
  obtain ⟨Z, env, rE, h⟩ := h
  refine ⟨Z, env, rE, (Out.ct.bind h).mono fun x H1 ⟨Z1, env1, a, p1, k1, l1, c1⟩ => ?_⟩
  cases ea : look a env1 with
  | none => rw [lk_none ea] at c1; exact c1.elim
  | some s =>
    rw [lk_some ea] at c1
    unfold opt at c1
    cases ef : f s with
    | none => rw [ef] at c1; exact c1.elim
    | some w =>
      rw [ef] at c1
      exact hs hid_le (l1.look1 p1.rep ea) ef fun z H' n => Out.made c1 p1.rep n
theorem xop {op : Operator} {r : R2} {f : T → T → Option Vw} {a b : Expr} {A B : M Vw} {pos : Pos} (ho : OpR X (binaryOp op) r) (hs : OpS (kb X.g W) r f) (ha : XE X W a A) (hb : XE X W b B) : XE X W (.BinOp a op b pos) (mOp f A B) :=
  (pe_op ho ha hb).weak fun _ _ _ => rd_op (g := X.g) hs
theorem xun {op : UnaryOp} {r : V → Hp → VK → Prop} {f : T → Option Vw} {a : Expr} {A : M Vw} {pos : Pos} (ho : UnR X (unaryOp op) r) (hs : UnS (kb X.g W) r f) (ha : XE X W a A) : XE X W (.UnaryOp op a pos) (mUn f A) :=
  (pe_un ho ha).weak fun _ _ _ => rd_un (g := X.g) hs
theorem xcmp {op : CmpOp} {r : R2} {f : T → T → Option Vw} {a b : Expr} {A B : M Vw} {pos : Pos} (ho : OpR X (compareOp op) r) (hs : OpS (kb X.g W) r f) (ha : XE X W a A) (hb : XE X W b B) (hm : behindInMarks op b = false) : XE X W (.Compare a [op] [b] pos) (mOp f A B) :=
  (pe_cmpR ho ha hb hm).weak fun _ _ _ => rd_op (g := X.g) hs
/-- as a test -/
theorem rd_test {m : M Vw} {t : TE} (hw : ∀ σ H Q, tE g W m σ H Q → t σ H Q) {Q : Bool → Hp → Prop} (h : tT g W (mTest m) σ H Q) : t σ H fun x H' => ∃ k, x = V.bl k ∧ Q k H' := by
  obtain ⟨Z, env, rE, h⟩ := h
  refine hw _ _ _ ⟨Z, env, rE, (Out.ct.bind h).mono fun x H1 ⟨Z1, env1, a, p1, k1, l1, c1⟩ => ?_⟩
  cases ea : look a env1 with
  | none => rw [lk_none ea] at c1; exact c1.elim
  | some s =>
    rw [lk_some ea] at c1
    have q := l1.look p1.rep ea
    cases s with
    | bool b =>
      cases q
      exact ⟨b, rfl, c1 b H1 Z1 p1.rep.post Kp.refl rfl⟩
    | _ => exact c1.elim
theorem xtcmp {op : CmpOp} {r : R2} {f : T → T → Option Vw} {a b : Expr} {A B : M Vw} {pos : Pos} (ho : OpR X (compareOp op) r) (hs : OpS (kb X.g W) r f) (ha : XE X W a A) (hb : XE X W b B) (hm : behindInMarks op b = false) : XT X W (.Compare a [op] [b] pos) (mTest (mOp f A B)) :=
  (pt_cmpR ho ha hb hm).weak fun _ _ _ => rd_test (g := X.g) fun _ _ _ => rd_op (g := X.g) hs
theorem xtval {e : Expr} {m : M Vw} (h : XE X W e m) (he : ∀ whole, isTrue e X.env whole = (do let v ← whole; standAt e.pos; holding [v] (truthy v)) := by intro _; rfl) : XT X W e (mTest m) :=
  (pt_val h he).weak fun _ _ _ => rd_test (g := X.g) fun _ _ _ h => h

/-! ### not, and, or; a if t else b -/
def mNotT (A : M Bool) : M Bool := A.bind fun c e => .ok (!c) e
def mAndT (A B : M Bool) : M Bool := A.bind fun c => if c then B else fun e => .ok false e
def mOrT (A B : M Bool) : M Bool := A.bind fun c => if c then (fun e => .ok true e) else B
def mIf (C : M Bool) (A B : M Vw) : M Vw := C.bind fun c => if c then A else B
def ofB (A : M Bool) : M Vw := A.bind fun c e => .ok (.v (.bool c)) e
theorem rd_not {A : M Bool} {Q} (h : tT g W (mNotT A) σ H Q) : tNot (tT g W A) σ H Q := by
  obtain ⟨Z, env, rE, h⟩ := h
  refine ⟨Z, env, rE, (Out.ct.bind h).mono fun c H1 ⟨Z1, env1, a, p1, k1, l1, c1⟩ => ?_⟩
  have ec : a = c := l1
  subst ec
  exact c1 _ H1 Z1 p1.rep.post Kp.refl rfl
theorem rd_and {A B : M Bool} {Q} (h : tT g W (mAndT A B) σ H Q) : tAnd (tT g W A) (tT g W B) σ H Q := by
  obtain ⟨Z, env, rE, h⟩ := h
  refine ⟨Z, env, rE, (Out.ct.bind h).mono fun c H1 ⟨Z1, env1, a, p1, k1, l1, c1⟩ => ?_⟩
  have ec : a = c := l1
  subst ec
  cases a with
  | true => rw [if_pos rfl]; exact ⟨Z1, env1, p1.rep, c1⟩
  | false => rw [if_neg Bool.false_ne_true]; exact c1 _ H1 Z1 p1.rep.post Kp.refl rfl
theorem rd_or {A B : M Bool} {Q} (h : tT g W (mOrT A B) σ H Q) : tOr (tT g W A) (tT g W B) σ H Q := by
  obtain ⟨Z, env, rE, h⟩ := h
  refine ⟨Z, env, rE, (Out.ct.bind h).mono fun c H1 ⟨Z1, env1, a, p1, k1, l1, c1⟩ => ?_⟩
  have ec : a = c := l1
  subst ec
  cases a with
  | false => rw [if_neg Bool.false_ne_true]; exact ⟨Z1, env1, p1.rep, c1⟩
  | true => rw [if_pos rfl]; exact c1 _ H1 Z1 p1.rep.post Kp.refl rfl
theorem rd_if {C : M Bool} {A B : M Vw} {Q} (h : tE g W (mIf C A B) σ H Q) : tIf (tT g W C) (tE g W A) (tE g W B) σ H Q := by
  obtain ⟨Z, env, rE, h⟩ := h
  refine ⟨Z, env, rE, (Out.ct.bind h).mono fun c H1 ⟨Z1, env1, a, p1, k1, l1, c1⟩ => ?_⟩
  have ec : a = c := l1
  subst ec
  cases a with
  | true => rw [if_pos rfl]; exact ⟨Z1, env1, p1.rep, c1⟩
  | false => rw [if_neg Bool.false_ne_true]; exact ⟨Z1, env1, p1.rep, c1⟩
section
variable {a b c : Expr} {rest : List Expr} {A B : M Bool} {P Q : M Vw} {pos : Pos}
theorem xtnot (ha : XT X W a A) : XT X W (.UnaryOp .Not a pos) (mNotT A) := (pt_not ha).weak fun _ _ _ => rd_not (g := X.g)
theorem xwand1 (ha : XT X W a A) : XW X W (.BoolOp .And [a] pos) A := pw_and1 ha
theorem xwor1 (ha : XT X W a A) : XW X W (.BoolOp .Or [a] pos) A := pw_or1 ha
theorem xwand (ha : XT X W a A) (hb : XW X W (.BoolOp .And (b :: rest) pos) B) : XW X W (.BoolOp .And (a :: b :: rest) pos) (mAndT A B) := (pw_and ha hb).weak fun _ _ _ => rd_and (g := X.g)
theorem xwor (ha : XT X W a A) (hb : XW X W (.BoolOp .Or (b :: rest) pos) B) : XW X W (.BoolOp .Or (a :: b :: rest) pos) (mOrT A B) := (pw_or ha hb).weak fun _ _ _ => rd_or (g := X.g)
theorem xwt {e : Expr} (h : XW X W e A) : XT X W e A := h.pt
theorem xif (hc : XT X W c A) (ha : XE X W a P) (hb : XE X W b Q) : XE X W (.IfExp c a b pos) (mIf A P Q) := (pe_ifExp hc ha hb).weak fun _ _ _ => rd_if (g := X.g)
end

/-- and, or as values: all but the last a truth value -/
def mAndV (A B : M Vw) : M Vw := A.bind fun a => (lk a).bind fun s => match s with
  | .bool true => B
  | .bool false => fun e => .ok (.v (.bool false)) e
  | _ => fun _ => .no
def mOrV (A B : M Vw) : M Vw := A.bind fun a => (lk a).bind fun s => match s with
  | .bool false => B
  | .bool true => fun e => .ok (.v (.bool true)) e
  | _ => fun _ => .no
def mNotV (A : M Vw) : M Vw := mUn (fun s => match s with | .bool b => some (.v (.bool (!b))) | _ => none) A
theorem rd_andV {A B : M Vw} {Q} (h : tE g W (mAndV A B) σ H Q) : tAndV (tE g W A) (tE g W B) σ H Q := by
  obtain ⟨Z, env, rE, h⟩ := h
  refine ⟨Z, env, rE, (Out.ct.bind h).mono fun x H1 ⟨Z1, env1, a, p1, k1, l1, c1⟩ => ?_⟩
  cases ea : look a env1 with
  | none => rw [lk_none ea] at c1; exact c1.elim
  | some s =>
    rw [lk_some ea] at c1
    have q := l1.look p1.rep ea
    cases s with
    | bool b =>
      cases q
      refine ⟨b, rfl, ?_⟩
      cases b with
      | true => rw [if_pos rfl]; exact ⟨Z1, env1, p1.rep, c1⟩
      | false => rw [if_neg Bool.false_ne_true]; exact c1 _ H1 Z1 p1.rep.post Kp.refl (.bl false)
    | _ => exact c1.elim
theorem rd_orV {A B : M Vw} {Q} (h : tE g W (mOrV A B) σ H Q) : tOrV (tE g W A) (tE g W B) σ H Q := by
  obtain ⟨Z, env, rE, h⟩ := h
  refine ⟨Z, env, rE, (Out.ct.bind h).mono fun x H1 ⟨Z1, env1, a, p1, k1, l1, c1⟩ => ?_⟩
  cases ea : look a env1 with
  | none => rw [lk_none ea] at c1; exact c1.elim
  | some s =>
    rw [lk_some ea] at c1
    have q := l1.look p1.rep ea
    cases s with
    | bool b =>
      cases q
      refine ⟨b, rfl, ?_⟩
      cases b with
      | false => rw [if_neg Bool.false_ne_true]; exact ⟨Z1, env1, p1.rep, c1⟩
      | true => rw [if_pos rfl]; exact c1 _ H1 Z1 p1.rep.post Kp.refl (.bl true)
    | _ => exact c1.elim
section
variable {a b : Expr} {rest : List Expr} {A B : M Vw} {pos : Pos} {op : BoolOp}
theorem xone (h : XE X W a A) : XE X W (.BoolOp op [a] pos) A := pe_one h
theorem xand (ha : XE X W a A) (hb : XE X W (.BoolOp .And (b :: rest) pos) B) : XE X W (.BoolOp .And (a :: b :: rest) pos) (mAndV A B) := (pe_and ha hb).weak fun _ _ _ => rd_andV (g := X.g)
theorem xor (ha : XE X W a A) (hb : XE X W (.BoolOp .Or (b :: rest) pos) B) : XE X W (.BoolOp .Or (a :: b :: rest) pos) (mOrV A B) := (pe_or ha hb).weak fun _ _ _ => rd_orV (g := X.g)
theorem xnot (ha : XE X W a A) : XE X W (.UnaryOp .Not a pos) (mNotV A) := (pe_not ha).weak fun σ H Q h => by
  obtain ⟨Z, env, rE, h⟩ := h
  refine ⟨Z, env, rE, (Out.ct.bind h).mono fun x H1 ⟨Z1, env1, a, p1, k1, l1, c1⟩ => ?_⟩
  cases ea : look a env1 with
  | none => rw [lk_none ea] at c1; exact c1.elim
  | some s =>
    rw [lk_some ea] at c1
    have q := l1.look p1.rep ea
    cases s with
    | bool b => cases q; exact ⟨b, rfl, c1 _ H1 Z1 p1.rep.post Kp.refl (.bl _)⟩
    | _ => exact c1.elim
end
/-- a < b < c -/
def mChain (f f' : T → T → Option Vw) (A B C : M Vw) : M Vw := A.bind fun a => B.bind fun b => (lk a).bind fun s => (lk b).bind fun t => (opt (f s t)).bind fun w => (lk w).bind fun u => match u with
  | .bool true => C.bind fun c => (lk b).bind fun t' => (lk c).bind fun v => opt (f' t' v)
  | .bool false => fun e => .ok (.v (.bool false)) e
  | _ => fun _ => .no
end
end Ev
end P_Ev1

section P_Ev2
set_option Elab.async false
set_option linter.all false
set_option maxRecDepth 100000
/-! Ev2: what the operators and built-ins do on data, and that the rules say so. -/
namespace Ev
open PySem L2 PySem.Spec
open PyProof.Rows hiding St
set_option autoImplicit false

/-! ### as the library's data -/
mutual
def T.pyO : T → Option PyData
  | .none => some .none
  | .bool b => some (.bool b)
  | .int i => some (.int i)
  | .str x => some (.str x)
  | .list ts => (T.pyOs ts).map .list
  | .tuple ts => (T.pyOs ts).map .tuple
  | .dict _ => Option.none
  | .ro _ => Option.none
  | .fn _ => Option.none
def T.pyOs : List T → Option (List PyData)
  | [] => some []
  | t :: ts => (T.pyO t).bind fun d => (T.pyOs ts).map fun ds => d :: ds
end
section
variable {K : PySem.W.Frag} {H : Hp}
mutual
theorem Rp.dp : ∀ (t : T) (v : V) (d : PyData), Rp K H v t → T.pyO t = some d → Dp K H v d
  | .none, _, _, h, e => by cases h; cases e; exact .non
  | .bool b, _, _, h, e => by cases h; cases e; exact .bl b
  | .int i, _, _, h, e => by cases h; cases e; exact .int i
  | .str x, _, _, h, e => by cases h; cases e; exact .str x
  | .list ts, _, _, h, e => by
    cases h with
    | lst a r =>
      unfold T.pyO at e
      cases q : T.pyOs ts with
      | none => rw [q] at e; cases e
      | some ds => rw [q] at e; cases e; exact .lst (.of a) (RpL.dp ts _ ds r q)
  | .tuple ts, _, _, h, e => by
    cases h with
    | tup a r =>
      unfold T.pyO at e
      cases q : T.pyOs ts with
      | none => rw [q] at e; cases e
      | some ds => rw [q] at e; cases e; exact .tup a (RpL.dp ts _ ds r q)
  | .dict _, _, _, _, e => by unfold T.pyO at e; cases e
  | .ro _, _, _, _, e => by unfold T.pyO at e; cases e
  | .fn _, _, _, _, e => by unfold T.pyO at e; cases e
theorem RpL.dp : ∀ (ts : List T) (vs : List V) (ds : List PyData), RpL K H vs ts → T.pyOs ts = some ds → DpAll K H vs ds
  | [], _, _, h, e => by cases h; cases e; exact .nil
  | t :: ts, _, _, h, e => by
    cases h with
    | cons h1 h2 =>
      unfold T.pyOs at e
      cases q : T.pyO t with
      | none => rw [q] at e; cases e
      | some d =>
        rw [q] at e
        cases q2 : T.pyOs ts with
        | none => rw [q2] at e; cases e
        | some ds => rw [q2] at e; cases e; exact .cons (Rp.dp t _ d h1 q) (RpL.dp ts _ ds h2 q2)
end
end

/-! ### arithmetic -/
def addF : T → T → Option Vw
  | .int i, .int j => some (.v (.int (i + j)))
  | .str a, .str b => if a.length + b.length ≤ sizeLine then some (.v (.str (a ++ b))) else none
  | .tuple a, .tuple b => if a.length + b.length ≤ sizeLine then some (.v (.tuple (a ++ b))) else none
  | .list a, .list b => if a.length + b.length ≤ sizeLine then some (.fr (.lst (a ++ b))) else none
  | _, _ => none
def subF : T → T → Option Vw
  | .int i, .int j => some (.v (.int (i - j)))
  | _, _ => none
def MulOk (i j : Int) : Prop := (Builtin.Int.intBits i : Int) + (Builtin.Int.intBits j : Int) ≤ 134217728
instance (i j : Int) : Decidable (MulOk i j) := by unfold MulOk; exact inferInstance
def mulF : T → T → Option Vw
  | .int i, .int j => if MulOk i j then some (.v (.int (i * j))) else none
  | .list a, .int k => if -(2 ^ 63) ≤ k ∧ k < 2 ^ 63 ∧ a.length * k.toNat ≤ sizeLine then some (.fr (.lst (List.replicate k.toNat a).flatten)) else none
  | _, _ => none
def fdivF : T → T → Option Vw
  | .int i, .int j => if j ≠ 0 ∧ j.natAbs.log2 < 9000 then some (.v (.int (i.fdiv j))) else none
  | _, _ => none
def modF : T → T → Option Vw
  | .int i, .int j => if j ≠ 0 then some (.v (.int (i.fmod j))) else none
  | _, _ => none
def powF : T → T → Option Vw
  | .int i, .int j => if 0 ≤ j ∧ j ≤ 1000000 ∧ i.natAbs < 2 ^ 64 then some (.v (.int (i ^ j.toNat))) else none
  | _, _ => none
def negF : T → Option Vw
  | .int i => some (.v (.int (-i)))
  | _ => none
def ltF : T → T → Option Vw
  | .int i, .int j => some (.v (.bool (decide (i < j))))
  | _, _ => none
def leF : T → T → Option Vw
  | .int i, .int j => some (.v (.bool (decide (i ≤ j))))
  | _, _ => none
def gtF : T → T → Option Vw
  | .int i, .int j => some (.v (.bool (decide (j < i))))
  | _, _ => none
def geF : T → T → Option Vw
  | .int i, .int j => some (.v (.bool (decide (j ≤ i))))
  | _, _ => none
def eqT (s t : T) : Option Bool := match T.pyO s, T.pyO t with
  | some d, some e => if SeqAt.shaped d = true ∧ SeqAt.shaped e = true then some (PyData.eqv d e) else Option.none
  | _, _ => Option.none
def eqF (s t : T) : Option Vw := (eqT s t).map fun b => .v (.bool b)
def neF (s t : T) : Option Vw := (eqT s t).map fun b => .v (.bool (!b))
/-- is None -/
def isNF (s : T) : Bool := match s with | .none => true | _ => false
def isF : T → T → Option Vw
  | s, .none => some (.v (.bool (isNF s)))
  | _, _ => none
def isnF : T → T → Option Vw
  | s, .none => some (.v (.bool (!isNF s)))
  | _, _ => none

section
variable {X : Cx} {K : KB}
theorem op_fdivX : OpR X (binaryOp .FloorDiv) (rI (fun _ j => j ≠ 0 ∧ j.natAbs.log2 < 9000) fun i j => .int (i.fdiv j)) := opI fun _ _ _ _ _ _ _ hc q => floordiv_int hc.1 q (.inl (PyProof.noPylong_of_log2 hc.2))
abbrev rAdd (K : PySem.W.Frag) : R2 := fun x y H Q => rI0 (fun i j => .int (i + j)) x y H Q ∨ (∃ i j, x = .str i ∧ y = .str j ∧ i.length + j.length ≤ sizeLine ∧ Q (.str (i ++ j)) H) ∨ rCatA K x y H Q ∨ rCat x y H Q
theorem op_addA : OpR X (binaryOp .Add) (rAdd X.K) := op_add.or (op_add_str.or (op_catA.or op_cat))
/-- a new tuple of what is seen -/
theorem New.tup {G H : Hp} {p : Addr} {xs : List V} {ts : List T} (hp : H p = none) (h : RpL K G xs ts) : New K G H (upd H p (.tup xs)) (.v (.tuple ts)) (.ref p) := by
  have sm : Same H (upd H p (.tup xs)) := fun b o e => by rw [upd_ne (ne_of_none e hp)]; exact e
  exact ⟨sm, fun G' e n => .tup (.of (n p _ hp upd_same)) (h.mono e)⟩
theorem New.lst {G H : Hp} {p : Addr} {xs : List V} {ts : List T} (hp : H p = none) (h : RpL K G xs ts) : New K G H (upd H p (.lst xs)) (.fr (.lst ts)) (.ref p) := by
  have sm : Same H (upd H p (.lst xs)) := fun b o e => by rw [upd_ne (ne_of_none e hp)]; exact e
  exact ⟨sm, p, rfl, hp, _, upd_same, h⟩
/-- a value that is seen already -/
theorem New.old {G H : Hp} {z : V} {t : T} (h : Rp K G z t) : New K G H H (.v t) z := ⟨fun _ _ e => e, fun G' e _ => h.mono e⟩
theorem RpL.nil_iff {H : Hp} {vs : List V} {ts : List T} (h : RpL K H vs ts) : vs = [] ↔ ts = [] := by
  cases h <;> simp

theorem s_add : OpS K (rAdd K) addF := by
  intro G H x y s t w Q sm hx hy e k
  cases hx with
  | int i =>
    cases hy with
    | int j => injection e with e; subst e; exact .inl ⟨i, j, rfl, rfl, k _ _ (.sc fun _ => .int _)⟩
    | _ => cases e
  | str i =>
    cases hy with
    | str j =>
      simp only [addF] at e
      split at e
      · rename_i hz; injection e with e; subst e; exact .inr (.inl ⟨i, j, rfl, rfl, hz, k _ _ (.sc fun _ => .str _)⟩)
      · cases e
    | _ => cases e
  | @tup a xs ds ha hr =>
    cases hy with
    | @tup b ys es hb hs =>
      simp only [addF] at e
      split at e
      · rename_i hz; injection e with e; subst e
        refine .inr (.inr (.inl ⟨a, b, xs, ys, rfl, rfl, sqT_mono sm ha, sqT_mono sm hb, by rw [hr.length, hs.length]; exact hz, fun n => ?_, fun n1 n2 => ?_, fun n1 n2 p hp => k _ _ (New.tup hp (hr.append hs))⟩))
        · subst n; cases hr
          exact k _ _ (.old (.tup hb hs))
        · subst n2; cases hs
          rw [List.append_nil] at k
          exact k _ _ (.old (.tup ha hr))
      · cases e
    | _ => cases e
  | @lst a xs ds ha hr =>
    cases hy with
    | @lst b ys es hb hs =>
      simp only [addF] at e
      split at e
      · rename_i hz; injection e with e; subst e
        exact .inr (.inr (.inr ⟨a, b, xs, ys, rfl, rfl, ha, hb, by rw [hr.length, hs.length]; exact hz, fun p hp => k _ _ (New.lst hp (hr.append hs))⟩))
      · cases e
    | _ => cases e
  | _ => cases e
theorem s_int {C : Int → Int → Prop} {v : Int → Int → V} {f : T → T → Option Vw} (hi : ∀ i j w, f (.int i) (.int j) = some w → C i j ∧ ∀ (K : KB) G H, New K G H H w (v i j)) (ho : ∀ s t w, f s t = some w → ∃ i j, s = .int i ∧ t = .int j) : OpS K (rI C v) f := by
  intro G H x y s t w Q sm hx hy e k
  obtain ⟨i, j, rfl, rfl⟩ := ho s t w e
  cases hx; cases hy
  obtain ⟨h1, h2⟩ := hi i j w e
  exact ⟨i, j, rfl, rfl, h1, k _ _ (h2 _ _ _)⟩
theorem s_int0 {v : Int → Int → V} {f : T → T → Option Vw} (hi : ∀ i j w, f (.int i) (.int j) = some w → ∀ (K : KB) G H, New K G H H w (v i j)) (ho : ∀ s t w, f s t = some w → ∃ i j, s = .int i ∧ t = .int j) : OpS K (rI0 v) f := by
  intro G H x y s t w Q sm hx hy e k
  obtain ⟨i, j, rfl, rfl⟩ := ho s t w e
  cases hx; cases hy
  exact ⟨i, j, rfl, rfl, k _ _ (hi i j w e _ _ _)⟩
theorem s_sub : OpS K (rI0 fun i j => .int (i - j)) subF := s_int0 (fun i j w e => by injection e with e; subst e; exact fun _ _ _ => .sc fun _ => .int _) fun s t w e => by cases s <;> cases t <;> first | exact ⟨_, _, rfl, rfl⟩ | cases e
theorem s_lt : OpS K (rI0 fun i j => .bl (decide (i < j))) ltF := s_int0 (fun i j w e => by injection e with e; subst e; exact fun _ _ _ => .sc fun _ => .bl _) fun s t w e => by cases s <;> cases t <;> first | exact ⟨_, _, rfl, rfl⟩ | cases e
theorem s_le : OpS K (rI0 fun i j => .bl (decide (i ≤ j))) leF := s_int0 (fun i j w e => by injection e with e; subst e; exact fun _ _ _ => .sc fun _ => .bl _) fun s t w e => by cases s <;> cases t <;> first | exact ⟨_, _, rfl, rfl⟩ | cases e
theorem s_gt : OpS K (rI0 fun i j => .bl (decide (j < i))) gtF := s_int0 (fun i j w e => by injection e with e; subst e; exact fun _ _ _ => .sc fun _ => .bl _) fun s t w e => by cases s <;> cases t <;> first | exact ⟨_, _, rfl, rfl⟩ | cases e
theorem s_ge : OpS K (rI0 fun i j => .bl (decide (j ≤ i))) geF := s_int0 (fun i j w e => by injection e with e; subst e; exact fun _ _ _ => .sc fun _ => .bl _) fun s t w e => by cases s <;> cases t <;> first | exact ⟨_, _, rfl, rfl⟩ | cases e
theorem s_fdiv : OpS K (rI (fun _ j => j ≠ 0 ∧ j.natAbs.log2 < 9000) fun i j => .int (i.fdiv j)) fdivF := s_int (fun i j w e => by
  simp only [fdivF] at e; split at e
  · rename_i h; injection e with e; subst e; exact ⟨h, fun _ _ _ => .sc fun _ => .int _⟩
  · cases e) fun s t w e => by cases s <;> cases t <;> first | exact ⟨_, _, rfl, rfl⟩ | cases e
theorem s_mod : OpS K (rI (fun _ j => j ≠ 0) fun i j => .int (i.fmod j)) modF := s_int (fun i j w e => by
  simp only [modF] at e; split at e
  · rename_i h; injection e with e; subst e; exact ⟨h, fun _ _ _ => .sc fun _ => .int _⟩
  · cases e) fun s t w e => by cases s <;> cases t <;> first | exact ⟨_, _, rfl, rfl⟩ | cases e
theorem s_pow : OpS K (rI CPow fun i j => .int (i ^ j.toNat)) powF := s_int (fun i j w e => by
  simp only [powF] at e; split at e
  · rename_i h; injection e with e; subst e; exact ⟨h, fun _ _ _ => .sc fun _ => .int _⟩
  · cases e) fun s t w e => by cases s <;> cases t <;> first | exact ⟨_, _, rfl, rfl⟩ | cases e
abbrev rMul : R2 := fun x y H Q => rI CMulX (fun i j => .int (i * j)) x y H Q ∨ rRep x y H Q
theorem op_mulA : OpR X (binaryOp .Mult) rMul := op_mulX.or op_rep
theorem rep_flat {G : Hp} {vs : List V} {ts : List T} (h : RpL K G vs ts) : ∀ n : Nat, RpL K G (List.replicate n vs).flatten (List.replicate n ts).flatten
  | 0 => .nil
  | n + 1 => by rw [List.replicate_succ, List.replicate_succ, List.flatten_cons, List.flatten_cons]; exact h.append (rep_flat h n)
theorem s_mul : OpS K rMul mulF := by
  intro G H x y s t w Q sm hx hy e k
  cases hx with
  | int i =>
    cases hy with
    | int j =>
      simp only [mulF] at e
      split at e
      · rename_i hz; injection e with e; subst e; exact .inl ⟨i, j, rfl, rfl, hz, k _ _ (.sc fun _ => .int _)⟩
      · cases e
    | _ => cases e
  | @lst a xs ds ha hr =>
    cases hy with
    | int j =>
      simp only [mulF] at e
      split at e
      · rename_i hz; injection e with e; subst e
        exact .inr ⟨a, j, xs, rfl, rfl, ha, hz.1, hz.2.1, by rw [hr.length]; exact hz.2.2, fun p hp => k _ _ (New.lst hp (rep_flat hr _))⟩
      · cases e
    | _ => cases e
  | _ => cases e
theorem s_neg : UnS K (rU fun i => .int (-i)) negF := by
  intro G H x s w Q sm hx e k
  cases hx <;> first | (injection e with e; subst e; exact ⟨_, rfl, k _ _ (.sc fun _ => .int _)⟩) | cases e
theorem eqT_some {s t : T} {b : Bool} (h : eqT s t = some b) : ∃ d e, T.pyO s = some d ∧ T.pyO t = some e ∧ SeqAt.shaped d = true ∧ SeqAt.shaped e = true ∧ b = PyData.eqv d e := by
  unfold eqT at h
  cases e1 : T.pyO s with
  | none => rw [e1] at h; cases h
  | some d =>
    cases e2 : T.pyO t with
    | none => rw [e1, e2] at h; cases h
    | some e =>
      rw [e1, e2] at h
      simp only at h
      split at h
      · rename_i hs; injection h with h; exact ⟨d, e, rfl, rfl, hs.1, hs.2, h.symm⟩
      · cases h
theorem s_eq : OpS K (rEqD K) eqF := by
  intro G H x y s t w Q sm hx hy e k
  unfold eqF at e
  cases q : eqT s t with
  | none => rw [q] at e; cases e
  | some b =>
    rw [q] at e; cases e
    obtain ⟨d, e, h1, h2, h3, h4, rfl⟩ := eqT_some q
    exact ⟨d, e, (hx.rp sm).dp _ _ _ h1, (hy.rp sm).dp _ _ _ h2, h3, h4, k _ _ (.sc fun _ => .bl _)⟩
theorem s_ne : OpS K (rNeD K) neF := by
  intro G H x y s t w Q sm hx hy e k
  unfold neF at e
  cases q : eqT s t with
  | none => rw [q] at e; cases e
  | some b =>
    rw [q] at e; cases e
    obtain ⟨d, e, h1, h2, h3, h4, rfl⟩ := eqT_some q
    exact ⟨d, e, (hx.rp sm).dp _ _ _ h1, (hy.rp sm).dp _ _ _ h2, h3, h4, k _ _ (.sc fun _ => .bl _)⟩
theorem isNF_iff {G H : Hp} {x : V} {s : T} (h : Rp1 K G H x s) : decide (x = V.non) = isNF s := by cases h <;> simp [isNF]
theorem s_is : OpS K (fun x y H Q => y = .non ∧ Q (.bl (decide (x = .non))) H) isF := by
  intro G H x y s t w Q sm hx hy e k
  cases hy with
  | non =>
    have e' : some (Vw.v (.bool (isNF s))) = some w := e
    injection e' with e'; subst e'
    refine ⟨rfl, ?_⟩
    rw [isNF_iff hx]
    exact k _ _ (.sc fun _ => .bl _)
  | _ => cases e
theorem s_isn : OpS K (fun x y H Q => y = .non ∧ Q (.bl (!decide (x = .non))) H) isnF := by
  intro G H x y s t w Q sm hx hy e k
  cases hy with
  | non =>
    have e' : some (Vw.v (.bool (!isNF s))) = some w := e
    injection e' with e'; subst e'
    refine ⟨rfl, ?_⟩
    rw [isNF_iff hx]
    exact k _ _ (.sc fun _ => .bl _)
  | _ => cases e
end
end Ev
end P_Ev2

section P_Ev3
set_option Elab.async false
set_option linter.all false
set_option maxRecDepth 100000
/-! Ev3: displays, subscripts, slices, chains, built-in calls. -/
namespace Ev
open PySem L2 PySem.Spec
open PyProof.Rows hiding St
set_option autoImplicit false

/-! ### letting go -/
section
variable {K : KB} {Z Z1 : SetA} {env env1 env2 : Sls} {σ : St} {H0 H H1 : Hp} {r : Vw} {x : V} {t : T}
theorem so_set {i : Nat} {s : Sl} {p : Addr} (hs : ∀ o, s ≠ .own o) (h : SO (env.set i s) σ p) : SO env σ p := by
  obtain ⟨j, o, h1, h2⟩ := h
  by_cases e : i = j
  · subst e
    rw [List.getElem?_set] at h1
    simp only [if_pos] at h1
    split at h1
    · injection h1 with h1; exact (hs o h1).elim
    · cases h1
  · rw [List.getElem?_set_ne e] at h1
    exact ⟨j, o, h1, h2⟩
/-- a slot's object becomes plain data -/
theorem freeze {i : Nat} {o : Ob} (rE : RepEnv K Z env σ H) (h : env[i]? = some (.own o)) :
    Post K Z env σ H Z (env.set i (.v o.data)) σ H ∧ Kp env (env.set i (.v o.data)) ∧ ∃ a, σ[i]? = some (some (.ref a)) ∧ Rp K (hid Z (env.set i (.v o.data)) σ H) (.ref a) o.data := by
  obtain ⟨a, h1, h2, h3⟩ := rE.own i o h
  have sub : ∀ p, SO (env.set i (.v o.data)) σ p → SO env σ p := fun p hp => so_set (fun o e => by cases e) hp
  have hi : i < env.length := (List.getElem?_eq_some_iff.mp h).1
  have nso : ¬ SO (env.set i (.v o.data)) σ a := by
    rintro ⟨j, o', e1, e2⟩
    by_cases e : i = j
    · subst e
      rw [List.getElem?_set_self hi] at e1
      cases e1
    · rw [List.getElem?_set_ne e] at e1
      exact e (rE.inj i j o o' a h e1 h1 e2)
  have sm : Same (hid Z env σ H) (hid Z (env.set i (.v o.data)) σ H) := fun p u e => by
    obtain ⟨e1, e2, e3⟩ := hid_some.mp e
    exact hid_some.mpr ⟨e1, fun z => e2 (sub p z), e3⟩
  have hr : Rp K (hid Z (env.set i (.v o.data)) σ H) (.ref a) o.data := h3.rp sm fun u e => hid_some.mpr ⟨h2, nso, e⟩
  refine ⟨⟨⟨by rw [List.length_set]; exact rE.len, fun j u e => ?_, fun j u e => ?_, fun j k u w b e1 e2 e3 e4 => ?_, rE.zd⟩, fun _ _ e _ => e, fun _ o e => ⟨o, e⟩, fun p e => .inl (sub p e), fun _ e => e, fun _ e => .inl e⟩, fun j f => ?_, a, h1, hr⟩
  · by_cases ej : i = j
    · subst ej
      rw [List.getElem?_set_self hi] at e
      injection e with e; injection e with e; subst e
      exact ⟨_, h1, hr⟩
    · rw [List.getElem?_set_ne ej] at e
      obtain ⟨y, q1, q2⟩ := rE.v j u e
      exact ⟨y, q1, q2.mono sm⟩
  · by_cases ej : i = j
    · subst ej
      rw [List.getElem?_set_self hi] at e
      cases e
    · rw [List.getElem?_set_ne ej] at e
      obtain ⟨b, q1, q2, q3⟩ := rE.own j u e
      exact ⟨b, q1, q2, q3.mono sm fun _ e => e⟩
  · have n1 : i ≠ j := fun z => by subst z; rw [List.getElem?_set_self hi] at e1; cases e1
    have n2 : i ≠ k := fun z => by subst z; rw [List.getElem?_set_self hi] at e2; cases e2
    rw [List.getElem?_set_ne n1] at e1
    rw [List.getElem?_set_ne n2] at e2
    exact rE.inj j k u w b e1 e2 e3 e4
  · by_cases ej : i = j
    · subst ej
      exact .inr ⟨_, List.getElem?_set_self hi⟩
    · unfold Full
      rw [List.getElem?_set_ne ej]
      exact f
/-- seen, whatever was hidden meanwhile -/
def Sees (K : KB) (H0 : Hp) (Z1 : SetA) (env : Sls) (σ : St) (H : Hp) (x : V) (t : T) : Prop :=
  ∀ Z : SetA, (∀ p, Z p → Z1 p) → (∀ p, Z p → ∃ o, H0 p = some o) → Rp K (hid Z env σ H) x t
theorem toT_ok (rE : RepEnv K Z1 env σ H) (h : RR K Z1 env σ H0 H r x) (e : toT r env = .ok t env2) : Post K Z1 env σ H Z1 env2 σ H ∧ Kp env env2 ∧ Sees K H0 Z1 env2 σ H x t := by
  cases r with
  | v u =>
    simp only [toT] at e
    injection e with e1 e2; subst e1; subst e2
    exact ⟨rE.post, Kp.refl, fun Z hz _ => Rp.mono (hid_lessZ hz) h⟩
  | fr o =>
    simp only [toT] at e
    injection e with e1 e2; subst e1; subst e2
    obtain ⟨a, rfl, h1, h2, h3⟩ := h
    refine ⟨rE.post, Kp.refl, fun Z hz hd => h3.rp (hid_lessZ hz) fun u e => hid_some.mpr ⟨fun q => ?_, rE.z_so h2, e⟩⟩
    obtain ⟨o, q⟩ := hd a q
    rw [h1] at q; cases q
  | sl i =>
    obtain ⟨h1, h2 | h2⟩ := h
    · obtain ⟨o, h2⟩ := h2
      simp only [toT, h2] at e
      injection e with e1 e2; subst e1; subst e2
      obtain ⟨p, k, a, h3, h4⟩ := freeze rE h2
      rw [h1] at h3; injection h3 with h3; injection h3 with h3; subst h3
      exact ⟨p, k, fun Z hz _ => h4.mono (hid_lessZ hz)⟩
    · obtain ⟨u, h2⟩ := h2
      simp only [toT, h2] at e
      injection e with e1 e2; subst e1; subst e2
      obtain ⟨y, h3, h4⟩ := rE.v i u h2
      rw [h1] at h3; injection h3 with h3; injection h3 with h3; subst h3
      exact ⟨rE.post, Kp.refl, fun Z hz _ => h4.mono (hid_lessZ hz)⟩
theorem Sees.step (h : Sees K H0 Z1 env σ H x t) (p : Post K Z1 env σ H Z1 env1 σ H1) : Sees K H0 Z1 env1 σ H1 x t := fun Z hz hd => by
  refine (h Z hz hd).mono fun q o e => ?_
  obtain ⟨e1, e2, e3⟩ := hid_some.mp e
  refine hid_some.mpr ⟨e1, fun z => (p.so q z).elim e2 fun n => ?_, p.fr q o e3 e2⟩
  rw [e3] at n; cases n
/-- letting go: no exception -/
theorem toT_er {y : Exc} : toT r env ≠ .er y env2 := by
  intro e
  cases r with
  | v u => cases e
  | fr o => cases e
  | sl i =>
    simp only [toT] at e
    split at e <;> cases e
theorem toTs_ok : ∀ {rs : List Vw} {xs : List V} {ts : List T} {env env2 : Sls}, RepEnv K Z1 env σ H → RRs K Z1 env σ H0 H rs xs → toTs rs env = .ok ts env2 →
    Post K Z1 env σ H Z1 env2 σ H ∧ Kp env env2 ∧ ∀ Z : SetA, (∀ p, Z p → Z1 p) → (∀ p, Z p → ∃ o, H0 p = some o) → RpL K (hid Z env2 σ H) xs ts
  | [], _, _, _, _, rE, h, e => by
    cases h
    injection e with e1 e2; subst e1; subst e2
    exact ⟨rE.post, Kp.refl, fun _ _ _ => .nil⟩
  | r :: rs, _, _, env, _, rE, h, e => by
    cases h with
    | cons h1 h2 h3 =>
      simp only [toTs, M.bind] at e
      cases q1 : toT r env with
      | er y e' => exact (toT_er q1).elim
      | no => rw [q1] at e; cases e
      | ok t env1 =>
        rw [q1] at e
        simp only [R.bind, M.bind] at e
        obtain ⟨p1, k1, s1⟩ := toT_ok rE h1 q1
        cases q2 : toTs rs env1 with
        | er y e' => rw [q2] at e; cases e
        | no => rw [q2] at e; cases e
        | ok ts env3 =>
          rw [q2] at e
          injection e with e1 e2; subst e1; subst e2
          obtain ⟨p2, k2, s2⟩ := toTs_ok p1.rep (h2.step rE p1 k1) q2
          exact ⟨p1.trans p2, k1.trans k2, fun Z hz hd => .cons (s1.step p2 Z hz hd) (s2 Z hz hd)⟩
theorem toTs_er {y : Exc} : ∀ {rs : List Vw} {env env2 : Sls}, toTs rs env ≠ .er y env2
  | [], _, _, e => by cases e
  | r :: rs, env, _, e => by
    simp only [toTs, M.bind] at e
    cases q1 : toT r env with
    | er y e' => exact (toT_er q1).elim
    | no => rw [q1] at e; cases e
    | ok t env1 =>
      rw [q1] at e
      simp only [R.bind, M.bind] at e
      cases q2 : toTs rs env1 with
      | er y e' => exact (toTs_er q2).elim
      | no => rw [q2] at e; cases e
      | ok ts env3 => rw [q2] at e; cases e
end

/-! ### argument lists and displays -/
section
variable {g : Gk} {W : WB} {σ : St} {Z : SetA} {env : Sls} {H : Hp} {X : Cx}
theorem xnil : XA X W [] mNil := pa_nil.weak fun σ H Q ⟨Z, env, rE, h⟩ => h [] H Z rE.post Kp.refl .nil
/-- what came later is newer -/
theorem nofr_of {K : KB} {Z : SetA} {env : Sls} {σ : St} {H1 H2 : Hp} {a : Addr} (ha : ∃ u, H1 a = some u) : ∀ {rs : List Vw} {xs : List V}, RRs K Z env σ H1 H2 rs xs → NoFr a rs xs
  | _, _, .nil, k, o, e, _ => by simp at e
  | _, _, .cons h r n, 0, o, e, f => by
    simp at e f
    subst e; subst f
    obtain ⟨b, e, h1, _⟩ := h
    injection e with e; subst e
    obtain ⟨u, q⟩ := ha
    rw [h1] at q; cases q
  | _, _, .cons h r n, k + 1, o, e, f => nofr_of ha r k o (by simpa using e) (by simpa using f)
/-- told from the start all the same -/
def From {α β : Type} (g : Gk) (W : WB) (L : Rel α β) (σ : St) (Q : β → Hp → Prop) (Z : SetA) (env : Sls) (H : Hp) (Z1 : SetA) (env1 : Sls) (H1 : Hp) (r : R α) : Prop :=
  Post (kb g W) Z env σ H Z1 env1 σ H1 ∧ Kp env env1 ∧ Out g W L σ Q Z env H r
theorem From.ct {α β : Type} {L : Rel α β} {Q : β → Hp → Prop} : Ct g W σ (From g W L σ Q Z env H) where
  er := fun h cls d H' p rx => h.2.2 cls d H' (h.1.trans p).lessZ (rx.mono (hid_lessZ h.1.zs))
  no := fun h => h.2.2
  step := fun p k h => ⟨h.1.trans p, h.2.1.trans k, h.2.2⟩
theorem xcons {e : Expr} {es : List Expr} {A : M Vw} {B : M (List Vw)} (ha : XE X W e A) (hb : XA X W es B) (hs : starEach (e :: es) X.env = (false, eval e X.env) :: starEach es X.env := by rfl) : XA X W (e :: es) (mCons A B) :=
  (pa_cons ha hb hs).weak fun σ H Q ⟨Z, env, rE, h⟩ =>
    ⟨Z, env, rE, (From.ct.bind (Z := Z) (env := env) (H := H) (C := From X.g W (LA (kb X.g W) σ) σ Q Z env H) ⟨rE.post, Kp.refl, h⟩).mono fun x H1 ⟨Z1, env1, a, p1, k1, l1, c1⟩ =>
      ⟨Z1, env1, p1.rep, (From.ct.bind c1).mono fun xs H2 ⟨Z2, env2, b, p2, k2, l2, c2⟩ =>
        c2.2.2 (x :: xs) H2 Z2 (p1.trans p2) (k1.trans k2) (.cons (l1.step p1.rep p2 k2) (l2.start fun p => p1.none) (fun o a e1 e2 => nofr_of (by subst e1; subst e2; obtain ⟨b, e, _, _, h3⟩ := l1; injection e with e; subst e; exact h3.dom) l2))⟩⟩
def mTup (A : M (List Vw)) : M Vw := A.bind fun rs => (toTs rs).bind fun ts => if ts.length ≤ sizeLine then (fun e => .ok (.v (.tuple ts)) e) else fun _ => .no
def mLst (A : M (List Vw)) : M Vw := A.bind fun rs => (toTs rs).bind fun ts => if ts.length ≤ sizeLine then (fun e => .ok (.fr (.lst ts)) e) else fun _ => .no
/-- the arguments are let go, then something is made -/
theorem Ct.plain {γ : Type} {C : SetA → Sls → Hp → R γ → Prop} (c : Ct g W σ C) {Z1 : SetA} {env1 : Sls} {H1 : Hp} {rs : List Vw} {xs : List V} {k : List T → M γ} (rE : RepEnv (kb g W) Z env σ H) (p1 : Post (kb g W) Z env σ H Z1 env1 σ H1) (k1 : Kp env env1)
    (l1 : RRs (kb g W) Z1 env1 σ H H1 rs xs) (h : C Z env H ((toTs rs).bind k env1)) : ∃ ts env2, RepEnv (kb g W) Z env2 σ H1 ∧ Post (kb g W) Z env σ H Z env2 σ H1 ∧ Kp env env2 ∧ RpL g.K (hid Z env2 σ H1) xs ts ∧ C Z env2 H1 (k ts env2) := by
  cases q : toTs rs env1 with
  | er y e => exact (toTs_er q).elim
  | no => simp only [M.bind, q, R.bind] at h; exact (c.no h).elim
  | ok ts env2 =>
    simp only [M.bind, q, R.bind] at h
    obtain ⟨p2, k2, s2⟩ := toTs_ok p1.rep l1 q
    have p3 : Post (kb g W) Z env σ H Z env2 σ H1 := (p1.trans p2).lessZ
    exact ⟨ts, env2, p3.rep, p3, k1.trans k2, s2 Z p1.zs rE.zd, c.step p3 (k1.trans k2) h⟩
/-- a part, then the rest, told from the start -/
theorem Out.bind0 {α β γ δ : Type} {L : Rel α β} {L' : Rel γ δ} [Back L'] {Q : δ → Hp → Prop} {m : R α} {k : α → M γ} (rE : RepEnv (kb g W) Z env σ H) (h : Out g W L' σ Q Z env H (m.bind k)) :
    Out g W L σ (fun x H1 => ∃ Z1 env1 r, Post (kb g W) Z env σ H Z1 env1 σ H1 ∧ Kp env env1 ∧ L Z1 env1 H H1 r x ∧ Out g W L' σ Q Z env H (k r env1)) Z env H m :=
  (From.ct.bind (C := From g W L' σ Q Z env H) ⟨rE.post, Kp.refl, h⟩).mono fun x H1 ⟨Z1, env1, r, p1, k1, l1, c1⟩ => ⟨Z1, env1, r, p1, k1, l1, c1.2.2⟩
theorem xtup {es : List Expr} {A : M (List Vw)} {x1 pos} (h : XA X W es A) : XE X W (.Tuple es x1 pos) (mTup A) :=
  (pe_tup h).weak fun σ H Q ⟨Z, env, rE, h⟩ => ⟨Z, env, rE, (Out.bind0 rE h).mono fun xs H1 ⟨Z1, env1, rs, p1, k1, l1, c1⟩ => by
    obtain ⟨ts, env2, r2, p2, k2, q2, c2⟩ := Out.ct.plain rE p1 k1 l1 c1
    split at c2
    · rename_i hz
      exact ⟨by rw [q2.length]; exact hz, fun p hp => Out.made c2 r2 (New.tup hp q2)⟩
    · exact c2.elim⟩
theorem xlst {es : List Expr} {A : M (List Vw)} {pos} (h : XA X W es A) : XE X W (.List es pos) (mLst A) :=
  (pe_lst h).weak fun σ H Q ⟨Z, env, rE, h⟩ => ⟨Z, env, rE, (Out.bind0 rE h).mono fun xs H1 ⟨Z1, env1, rs, p1, k1, l1, c1⟩ => by
    obtain ⟨ts, env2, r2, p2, k2, q2, c2⟩ := Out.ct.plain rE p1 k1 l1 c1
    split at c2
    · rename_i hz
      exact ⟨by rw [q2.length]; exact hz, fun p hp => Out.made c2 r2 (New.lst hp q2)⟩
    · exact c2.elim⟩

/-! ### chains -/
theorem Out.look {β : Type} {L : Rel β V} {Q : V → Hp → Prop} {r : Vw} {k : T → M β} (h : Out g W L σ Q Z env H ((lk r).bind k env)) : ∃ t, Ev.look r env = some t ∧ Out g W L σ Q Z env H (k t env) := by
  cases e : Ev.look r env with
  | none => rw [lk_none e] at h; exact h.elim
  | some t => rw [lk_some e] at h; exact ⟨t, rfl, h⟩
/-- results that are truth values -/
def BlF (f : T → T → Option Vw) : Prop := ∀ s t w, f s t = some w → ∃ b, w = .v (.bool b)
theorem rd_chain {r r' : R2} {f f' : T → T → Option Vw} (hs : OpS (kb g W) r f) (hs' : OpS (kb g W) r' f') (hb : BlF f) {A B C : M Vw} {Q : VK} (h : tE g W (mChain f f' A B C) σ H Q) : tChain r r' (tE g W A) (tE g W B) (tE g W C) σ H Q := by
  obtain ⟨Z, env, rE, h⟩ := h
  refine ⟨Z, env, rE, (Out.ct.bind h).mono fun x H1 ⟨Z1, env1, a, p1, k1, l1, c1⟩ => ?_⟩
  refine ⟨Z1, env1, p1.rep, (Out.ct.bind c1).mono fun y H2 ⟨Z2, env2, b, p2, k2, l2, c2⟩ => ?_⟩
  have l1' := l1.step p1.rep p2 k2
  obtain ⟨s, es, c3⟩ := Out.look c2
  obtain ⟨t, et, c4⟩ := Out.look c3
  simp only [M.bind, opt] at c4
  cases ef : f s t with
  | none => rw [ef] at c4; exact c4.elim
  | some w =>
    rw [ef] at c4
    obtain ⟨k, rfl⟩ := hb s t w ef
    simp only [R.bind, lk, Ev.look, M.bind] at c4
    refine hs hid_le (l1'.look1 p2.rep es) (l2.look1 p2.rep et) ef fun z H3 n => ?_
    obtain ⟨sm, hz⟩ := n
    have hz1 : z = V.bl k := by
      have := hz H3 (fun p o e => sm _ _ (hid_le _ _ e)) fun p o _ e => e
      cases this; rfl
    subst hz1
    have p3 : Post (kb g W) Z2 env2 σ H2 Z2 env2 σ H3 := by
      have s1 : Same (hid Z2 env2 σ H2) (hid Z2 env2 σ H3) := fun p o e => by
        obtain ⟨h1, h2, h3⟩ := hid_some.mp e
        exact hid_some.mpr ⟨h1, h2, sm _ _ h3⟩
      have rE2 := p2.rep
      refine ⟨⟨rE2.len, fun i t e => ?_, fun i o e => ?_, rE2.inj, fun p hz => ?_⟩, fun p o e _ => sm p o e, fun p o e => ⟨o, sm p o e⟩, fun _ e => .inl e, fun _ e => e, fun _ e => .inl e⟩
      · obtain ⟨x, h1, h2⟩ := rE2.v i t e; exact ⟨x, h1, h2.mono s1⟩
      · obtain ⟨a, h1, h2, h3⟩ := rE2.own i o e; exact ⟨a, h1, h2, h3.mono s1 fun u e => sm a u e⟩
      · obtain ⟨o, e⟩ := rE2.zd p hz; exact ⟨o, sm p o e⟩
    refine ⟨k, rfl, ?_⟩
    cases k with
    | false =>
      rw [if_neg Bool.false_ne_true]
      exact c4 _ H3 Z2 p3 Kp.refl (.bl false)
    | true =>
      rw [if_pos rfl]
      refine ⟨Z2, env2, p3.rep, (Out.ct.bind (Out.ct.step p3 Kp.refl c4)).mono fun y' H4 ⟨Z4, env4, c, p4, k4, l4, c5⟩ => ?_⟩
      have l2' := (l2.step p2.rep p3 Kp.refl).step p3.rep p4 k4
      obtain ⟨t', et', c6⟩ := Out.look (show Out g W (LE (kb g W) σ) σ Q Z4 env4 H4 ((lk b).bind _ env4) from c5)
      obtain ⟨v, ev, c7⟩ := Out.look c6
      unfold opt at c7
      cases ef' : f' t' v with
      | none => rw [ef'] at c7; exact c7.elim
      | some w' =>
        rw [ef'] at c7
        exact hs' hid_le (l2'.look1 p4.rep et') (l4.look1 p4.rep ev) ef' fun z H' n => Out.made c7 p4.rep n
section
variable {a b c : Expr} {A B C : M Vw} {pos : Pos} {op op' : CmpOp} {r r' : R2} {f f' : T → T → Option Vw}
theorem xchain (ho : OpR X (compareOp op) r) (hs : OpS (kb X.g W) r f) (hbl : BlF f) (ho' : OpR X (compareOp op') r') (hs' : OpS (kb X.g W) r' f') (ha : XE X W a A) (hb : XE X W b B) (hc : XE X W c C)
    (hm : lastMarks [op, op'] [b, c] = false := by with_unfolding_all rfl) : XE X W (.Compare a [op, op'] [b, c] pos) (mChain f f' A B C) := (pe_chain ho ho' ha hb hc hm).weak fun _ _ _ => rd_chain (g := X.g) hs hs' hbl
theorem xtchain (ho : OpR X (compareOp op) r) (hs : OpS (kb X.g W) r f) (hbl : BlF f) (ho' : OpR X (compareOp op') r') (hs' : OpS (kb X.g W) r' f') (ha : XE X W a A) (hb : XE X W b B) (hc : XE X W c C)
    (hm : lastMarks [op, op'] [b, c] = false := by with_unfolding_all rfl) : XT X W (.Compare a [op, op'] [b, c] pos) (mTest (mChain f f' A B C)) := (pt_chain ho ho' ha hb hc hm).weak fun _ _ _ => rd_test (g := X.g) fun _ _ _ => rd_chain (g := X.g) hs hs' hbl
end
theorem b_lt : BlF ltF := fun s t w e => by cases s <;> cases t <;> first | (injection e with e; exact ⟨_, e.symm⟩) | cases e
theorem b_le : BlF leF := fun s t w e => by cases s <;> cases t <;> first | (injection e with e; exact ⟨_, e.symm⟩) | cases e
theorem b_gt : BlF gtF := fun s t w e => by cases s <;> cases t <;> first | (injection e with e; exact ⟨_, e.symm⟩) | cases e
theorem b_ge : BlF geF := fun s t w e => by cases s <;> cases t <;> first | (injection e with e; exact ⟨_, e.symm⟩) | cases e
theorem b_eq : BlF eqF := fun s t w e => by unfold eqF at e; cases q : eqT s t <;> rw [q] at e <;> cases e; exact ⟨_, rfl⟩
theorem b_ne : BlF neF := fun s t w e => by unfold neF at e; cases q : eqT s t <;> rw [q] at e <;> cases e; exact ⟨_, rfl⟩

/-! ### built-in functions of values -/
theorem rd_lks : ∀ {rs : List Vw} {xs : List V} {ts : List T} {e' : Sls} {H0 : Hp}, RepEnv (kb g W) Z env σ H → RRs (kb g W) Z env σ H0 H rs xs → lks rs env = .ok ts e' → e' = env ∧ Rp1s g.K (hid Z env σ H) H xs ts
  | [], _, _, _, _, rE, h, e => by cases h; injection e with e1 e2; subst e1; exact ⟨e2.symm, .nil⟩
  | r :: rs, _, _, _, _, rE, h, e => by
    cases h with
    | cons h1 h2 h3 =>
      simp only [lks, lk, M.bind] at e
      cases q : Ev.look r env with
      | none => rw [q] at e; cases e
      | some t =>
        rw [q] at e
        simp only [R.bind, M.bind] at e
        cases q2 : lks rs env with
        | er y e' => rw [q2] at e; cases e
        | no => rw [q2] at e; cases e
        | ok ts env3 =>
          rw [q2] at e
          injection e with e1 e2; subst e1; subst e2
          obtain ⟨e3, r3⟩ := rd_lks rE h2 q2
          exact ⟨e3, .cons (h1.look1 rE q) r3⟩
theorem lks_er {y : Exc} {e' : Sls} : ∀ {rs : List Vw} {env : Sls}, lks rs env ≠ .er y e'
  | [], _, e => by cases e
  | r :: rs, env, e => by
    simp only [lks, lk, M.bind] at e
    cases q : Ev.look r env with
    | none => rw [q] at e; cases e
    | some t =>
      rw [q] at e
      simp only [R.bind, M.bind] at e
      cases q2 : lks rs env with
      | er y e' => exact lks_er q2
      | no => rw [q2] at e; cases e
      | ok ts env3 => rw [q2] at e; cases e
theorem rd_b {r : List V → Hp → VK → Prop} {f : List T → Option Vw} (hs : CaS (kb g W) r f) {A : M (List Vw)} {Q : VK} (h : tE g W (mB f A) σ H Q) : tCB r (tA g W A) σ H Q := by
  obtain ⟨Z, env, rE, h⟩ := h
  refine ⟨Z, env, rE, (Out.ct.bind h).mono fun xs H1 ⟨Z1, env1, rs, p1, k1, l1, c1⟩ => ?_⟩
  simp only [M.bind] at c1
  cases q : lks rs env1 with
  | er y e => exact (lks_er q).elim
  | no => rw [q] at c1; exact c1.elim
  | ok ts env2 =>
    rw [q] at c1
    simp only [R.bind, opt] at c1
    obtain ⟨e2, r2⟩ := rd_lks p1.rep l1 q
    subst e2
    cases ef : f ts with
    | none => rw [ef] at c1; exact c1.elim
    | some w =>
      rw [ef] at c1
      exact hs hid_le r2 ef fun z H' n => Out.made c1 p1.rep n
section
variable {x : PySem.Str} {p pos : Pos} {e : Expr} {es : List Expr} {A : M (List Vw)} {id T : String} {r : List V → Hp → VK → Prop} {f : List Ev.T → Option Vw}
theorem xb (hc : CallR X (.builtin id) r) (hs : CaS (kb X.g W) r f) (hg : Gl X x) (hm : X.mg x = none) (hv : bootBuiltins x = some (.builtin id)) (ha : XA X W (e :: es) A) (hn : x ≠ "__name__" := by decide) (hdb : (x == ("__debug__" : Str)) = false := by decide)
    (he : starEach (e :: es) X.env = (false, eval e X.env) :: starEach es X.env := by rfl) (hpl : (backTo pos (starEach es X.env)).any (·.1) = false := by rfl) : XE X W (.Call (.Name x p) (e :: es) [] pos) (mB f A) :=
  (pe_callB hc hg hm hv ha hn hdb he hpl).weak fun _ _ _ => rd_b (g := X.g) hs
theorem xty (hc : CallR X (.type T) r) (hs : CaS (kb X.g W) r f) (hg : Gl X x) (hm : X.mg x = none) (hv : bootBuiltins x = some (.type T)) (ha : XA X W (e :: es) A) (hn : x ≠ "__name__" := by decide) (hdb : (x == ("__debug__" : Str)) = false := by decide)
    (he : starEach (e :: es) X.env = (false, eval e X.env) :: starEach es X.env := by rfl) (hpl : (backTo pos (starEach es X.env)).any (·.1) = false := by rfl) : XE X W (.Call (.Name x p) (e :: es) [] pos) (mB f A) :=
  (pe_callTy hc hg hm hv ha hn hdb he hpl).weak fun _ _ _ => rd_b (g := X.g) hs
/-- a built-in function that a name of the module holds -/
theorem xbm (hc : CallR X (.builtin id) r) (hs : CaS (kb X.g W) r f) (hg : Gl X x) (hm : X.mg x = some (.builtin id)) (ha : XA X W (e :: es) A) (hdb : (x == ("__debug__" : Str)) = false := by decide)
    (he : starEach (e :: es) X.env = (false, eval e X.env) :: starEach es X.env := by rfl) (hpl : (backTo pos (starEach es X.env)).any (·.1) = false := by rfl) : XE X W (.Call (.Name x p) (e :: es) [] pos) (mB f A) :=
  (pe_callBfun hc hg hm ha hdb he hpl).weak fun _ _ _ => rd_b (g := X.g) hs
end
end
end Ev
end P_Ev3

section P_Ev4
set_option Elab.async false
set_option linter.all false
set_option maxRecDepth 100000
/-! Ev4: built-ins, subscripts, slices, dicts. -/
namespace Ev
open PySem L2 PySem.Spec
open PyProof.Rows hiding St
set_option autoImplicit false

section
variable {K : KB} {X : Cx}
theorem CallR.or {f : Value} {r r' : List V → Hp → VK → Prop} (h : CallR X f r) (h' : CallR X f r') : CallR X f (fun x H Q => r x H Q ∨ r' x H Q) := by
  intro pins s σ H xs us Q I rx q
  rcases q with q | q
  · exact h pins s σ H xs us Q I rx q
  · exact h' pins s σ H xs us Q I rx q
theorem Rp1s.one {K : PySem.W.Frag} {G H : Hp} {xs : List V} {t : T} (h : Rp1s K G H xs [t]) : ∃ x, xs = [x] ∧ Rp1 K G H x t := by
  cases h with
  | cons a b => cases b; exact ⟨_, rfl, a⟩
theorem Rp1s.two {K : PySem.W.Frag} {G H : Hp} {xs : List V} {t u : T} (h : Rp1s K G H xs [t, u]) : ∃ x y, xs = [x, y] ∧ Rp1 K G H x t ∧ Rp1 K G H y u := by
  cases h with
  | cons a b => cases b with | cons c d => cases d; exact ⟨_, _, rfl, a, c⟩

def lenF : List T → Option Vw
  | [.str x] => if x.length ≤ sizeLine then some (.v (.int x.length)) else none
  | [.list ts] => some (.v (.int ts.length))
  | [.tuple ts] => some (.v (.int ts.length))
  | [.ro ts] => some (.v (.int ts.length))
  | [.dict kvs] => some (.v (.int kvs.length))
  | _ => none
abbrev rLen (K : PySem.W.Frag) : List V → Hp → VK → Prop := fun xs H Q => (∃ x n, xs = [x] ∧ LenV K x H n ∧ Q (.int n) H) ∨ ∃ a kvs, xs = [V.ref a] ∧ H a = some (.dK kvs) ∧ Q (.int kvs.length) H
theorem call_lenA : CallR X (.builtin "len") (rLen X.K) := CallR.or call_len call_lenD
theorem RpKv.length {H : Hp} : ∀ {vs : List (Key × V)} {ts : List (T × T)}, RpKv K H vs ts → vs.length = ts.length
  | _, _, .nil => rfl
  | _, _, .cons _ r => by rw [List.length_cons, List.length_cons, RpKv.length r]
theorem s_len : CaS K (rLen K) lenF := by
  intro G H xs ts w Q sm hx e k
  unfold lenF at e
  split at e
  · obtain ⟨x, rfl, h⟩ := hx.one
    cases h
    split at e
    · rename_i hz; injection e with e; subst e; exact .inl ⟨_, _, rfl, ⟨hz, rfl⟩, k _ _ (.sc fun _ => .int _)⟩
    · cases e
  · obtain ⟨x, rfl, h⟩ := hx.one
    cases h with
    | lst a r => injection e with e; subst e; exact .inl ⟨_, _, rfl, .inl ⟨_, .of a, rfl⟩, k _ _ (by rw [r.length]; exact .sc fun _ => .int _)⟩
  · obtain ⟨x, rfl, h⟩ := hx.one
    cases h with
    | tup a r => injection e with e; subst e; exact .inl ⟨_, _, rfl, .inr ⟨_, sqT_mono sm a, rfl⟩, k _ _ (by rw [r.length]; exact .sc fun _ => .int _)⟩
  · obtain ⟨x, rfl, h⟩ := hx.one
    cases h with
    | ro a r => injection e with e; subst e; exact .inl ⟨_, _, rfl, .inl ⟨_, a, rfl⟩, k _ _ (by rw [r.length]; exact .sc fun _ => .int _)⟩
  · obtain ⟨x, rfl, h⟩ := hx.one
    cases h with
    | dct a r => injection e with e; subst e; exact .inr ⟨_, _, rfl, a, k _ _ (by rw [r.length]; exact .sc fun _ => .int _)⟩
  · cases e

def absF : List T → Option Vw
  | [.int i] => some (.v (.int (if i < 0 then -i else i)))
  | _ => none
theorem s_abs : CaS K (fun xs H Q => ∃ i, xs = [.int i] ∧ Q (.int (if i < 0 then -i else i)) H) absF := by
  intro G H xs ts w Q sm hx e k
  unfold absF at e
  split at e
  · obtain ⟨x, rfl, h⟩ := hx.one
    cases h; injection e with e; subst e; exact ⟨_, rfl, k _ _ (.sc fun _ => .int _)⟩
  · cases e
def intF : List T → Option Vw
  | [.int i] => some (.v (.int i))
  | [.bool b] => some (.v (.int (if b then 1 else 0)))
  | _ => none
theorem s_int1 : CaS K (fun xs H Q => (∃ i, xs = [.int i] ∧ Q (.int i) H) ∨ ∃ k, xs = [.bl k] ∧ Q (.int (if k then 1 else 0)) H) intF := by
  intro G H xs ts w Q sm hx e k
  unfold intF at e
  split at e
  · obtain ⟨x, rfl, h⟩ := hx.one
    cases h; injection e with e; subst e; exact .inl ⟨_, rfl, k _ _ (.sc fun _ => .int _)⟩
  · obtain ⟨x, rfl, h⟩ := hx.one
    cases h; injection e with e; subst e; exact .inr ⟨_, rfl, k _ _ (.sc fun _ => .int _)⟩
  · cases e
def gcdF : List T → Option Vw
  | [.int a, .int b] => some (.v (.int ((Nat.gcd a.natAbs b.natAbs : Nat) : Int)))
  | _ => none
theorem s_gcd : CaS K rGcd gcdF := by
  intro G H xs ts w Q sm hx e k
  unfold gcdF at e
  split at e
  · obtain ⟨x, y, rfl, h1, h2⟩ := hx.two
    cases h1; cases h2; injection e with e; subst e; exact ⟨_, _, rfl, k _ _ (.sc fun _ => .int _)⟩
  · cases e
def max2F : List T → Option Vw
  | [.int i, .int j] => some (.v (.int (if j > i then j else i)))
  | _ => none
def min2F : List T → Option Vw
  | [.int i, .int j] => some (.v (.int (if j < i then j else i)))
  | _ => none
theorem s_max2 : CaS K (fun xs H Q => ∃ i j, xs = [.int i, .int j] ∧ Q (.int (if j > i then j else i)) H) max2F := by
  intro G H xs ts w Q sm hx e k
  unfold max2F at e
  split at e
  · obtain ⟨x, y, rfl, h1, h2⟩ := hx.two
    cases h1; cases h2; injection e with e; subst e; exact ⟨_, _, rfl, k _ _ (.sc fun _ => .int _)⟩
  · cases e
theorem s_min2 : CaS K (fun xs H Q => ∃ i j, xs = [.int i, .int j] ∧ Q (.int (if j < i then j else i)) H) min2F := by
  intro G H xs ts w Q sm hx e k
  unfold min2F at e
  split at e
  · obtain ⟨x, y, rfl, h1, h2⟩ := hx.two
    cases h1; cases h2; injection e with e; subst e; exact ⟨_, _, rfl, k _ _ (.sc fun _ => .int _)⟩
  · cases e
def boolsOf : List T → Option (List Bool)
  | [] => some []
  | .bool b :: ts => (boolsOf ts).map fun bs => b :: bs
  | _ => none
theorem boolsOf_rp {G : Hp} : ∀ {ts : List T} {vs : List V} {bs : List Bool}, RpL K G vs ts → boolsOf ts = some bs → vs = bs.map V.bl
  | [], _, _, h, e => by cases h; injection e with e; subst e; rfl
  | t :: ts, _, _, h, e => by
    cases h with
    | cons a r =>
      cases a with
      | bl b =>
        unfold boolsOf at e
        cases q : boolsOf ts with
        | none => rw [q] at e; cases e
        | some cs => rw [q] at e; cases e; rw [boolsOf_rp r q]; rfl
      | _ => cases e
def allF : List T → Option Vw
  | [.list ts] => (boolsOf ts).map fun bs => .v (.bool (bs.all id))
  | _ => none
def anyF : List T → Option Vw
  | [.list ts] => (boolsOf ts).map fun bs => .v (.bool (bs.any id))
  | _ => none
theorem s_all : CaS K (rAll K) allF := by
  intro G H xs ts w Q sm hx e k
  unfold allF at e
  split at e
  · rename_i l
    obtain ⟨x, rfl, h⟩ := hx.one
    cases h with
    | lst a r =>
      cases q : boolsOf l with
      | none => rw [q] at e; cases e
      | some bs => rw [q] at e; cases e; exact ⟨_, bs, rfl, .of (by rw [← boolsOf_rp r q]; exact a), k _ _ (.sc fun _ => .bl _)⟩
  · cases e
theorem s_any : CaS K (rAny K) anyF := by
  intro G H xs ts w Q sm hx e k
  unfold anyF at e
  split at e
  · rename_i l
    obtain ⟨x, rfl, h⟩ := hx.one
    cases h with
    | lst a r =>
      cases q : boolsOf l with
      | none => rw [q] at e; cases e
      | some bs => rw [q] at e; cases e; exact ⟨_, bs, rfl, .of (by rw [← boolsOf_rp r q]; exact a), k _ _ (.sc fun _ => .bl _)⟩
  · cases e
def listF : List T → Option Vw
  | [.list ts] => some (.fr (.lst ts))
  | [.tuple ts] => some (.fr (.lst ts))
  | [.ro ts] => some (.fr (.lst ts))
  | _ => none
theorem s_list : CaS K (fun xs H Q => ∃ p ys, xs = [.ref p] ∧ (SqL K H p ys ∨ SqT K H p ys) ∧ ∀ l, H l = none → Q (.ref l) (upd H l (.lst ys))) listF := by
  intro G H xs ts w Q sm hx e k
  unfold listF at e
  split at e
  · obtain ⟨x, rfl, h⟩ := hx.one
    cases h with
    | lst a r => injection e with e; subst e; exact ⟨_, _, rfl, .inl (.of a), fun l hl => k _ _ (New.lst hl r)⟩
  · obtain ⟨x, rfl, h⟩ := hx.one
    cases h with
    | tup a r => injection e with e; subst e; exact ⟨_, _, rfl, .inr (sqT_mono sm a), fun l hl => k _ _ (New.lst hl r)⟩
  · obtain ⟨x, rfl, h⟩ := hx.one
    cases h with
    | ro a r => injection e with e; subst e; exact ⟨_, _, rfl, .inl a, fun l hl => k _ _ (New.lst hl r)⟩
  · cases e
def tupleF : List T → Option Vw
  | [.list ts] => some (.v (.tuple ts))
  | [.tuple ts] => some (.v (.tuple ts))
  | [.ro ts] => some (.v (.tuple ts))
  | _ => none
theorem s_tuple : CaS K (fun xs H Q => ∃ p ys, xs = [.ref p] ∧ ((SqL K H p ys ∧ ∀ l, H l = none → Q (.ref l) (upd H l (.tup ys))) ∨ (SqT K H p ys ∧ Q (.ref p) H))) tupleF := by
  intro G H xs ts w Q sm hx e k
  unfold tupleF at e
  split at e
  · obtain ⟨x, rfl, h⟩ := hx.one
    cases h with
    | lst a r => injection e with e; subst e; exact ⟨_, _, rfl, .inl ⟨.of a, fun l hl => k _ _ (New.tup hl r)⟩⟩
  · obtain ⟨x, rfl, h⟩ := hx.one
    cases h with
    | tup a r => injection e with e; subst e; exact ⟨_, _, rfl, .inr ⟨sqT_mono sm a, k _ _ (.old (.tup a r))⟩⟩
  · obtain ⟨x, rfl, h⟩ := hx.one
    cases h with
    | ro a r => injection e with e; subst e; exact ⟨_, _, rfl, .inl ⟨a, fun l hl => k _ _ (New.tup hl r)⟩⟩
  · cases e

/-! ### isinstance -/
inductive Ty where
  | int | bool | str | tuple | list | dict
def Ty.name : Ty → String
  | .int => "int" | .bool => "bool" | .str => "str" | .tuple => "tuple" | .list => "list" | .dict => "dict"
def isi : Ty → T → Option Bool
  | _, .fn _ => none
  | .int, .int _ => some true
  | .int, .bool _ => some true
  | .int, _ => some false
  | .bool, .bool _ => some true
  | .bool, _ => some false
  | .str, .str _ => some true
  | .str, _ => some false
  | .tuple, .tuple _ => some true
  | .tuple, _ => some false
  | .list, .list _ => some true
  | .list, .ro _ => some true
  | .list, _ => some false
  | .dict, .dict _ => some true
  | .dict, _ => some false
def tyN : T → Option String
  | .none => some "NoneType"
  | .bool _ => some "bool"
  | .int _ => some "int"
  | .str _ => some "str"
  | .list _ => some "list"
  | .ro _ => some "list"
  | .tuple _ => some "tuple"
  | .dict _ => some "dict"
  | .fn _ => none
theorem isi_ok (k : Ty) (t : T) (b : Bool) (h : isi k t = some b) : ∃ n, tyN t = some n ∧ kitB n k.name = some b := by
  cases t with
  | fn x => cases k <;> cases h
  | none => exact ⟨_, rfl, by cases k <;> cases h <;> decide +kernel⟩
  | bool _ => exact ⟨_, rfl, by cases k <;> cases h <;> decide +kernel⟩
  | int _ => exact ⟨_, rfl, by cases k <;> cases h <;> decide +kernel⟩
  | str _ => exact ⟨_, rfl, by cases k <;> cases h <;> decide +kernel⟩
  | list _ => exact ⟨_, rfl, by cases k <;> cases h <;> decide +kernel⟩
  | tuple _ => exact ⟨_, rfl, by cases k <;> cases h <;> decide +kernel⟩
  | dict _ => exact ⟨_, rfl, by cases k <;> cases h <;> decide +kernel⟩
  | ro _ => exact ⟨_, rfl, by cases k <;> cases h <;> decide +kernel⟩
theorem tyX_of {G H : Hp} {x : V} {t : T} {n : String} (sm : Same G H) (h : Rp1 K G H x t) (e : tyN t = some n) : TyX K H x (.type n) := by
  cases h with
  | non => cases e; exact .base .non
  | bl b => cases e; exact .base (.bl b)
  | int i => cases e; exact .base (.int i)
  | str x => cases e; exact .base (.str x)
  | lst a r => cases e; exact .base (.lst a)
  | ro a r =>
    cases e
    rcases a with (a | ⟨o, a⟩) | ⟨o, its, n, a1, a2, _⟩
    · exact .base (.lst a)
    · exact .base (.frz a)
    · exact .kList a1 a2
  | tup a r =>
    cases e
    rcases sqT_mono sm a with (a | ⟨o, a⟩) | ⟨o, its, n, a1, a2, _⟩
    · exact .base (.tup a)
    · exact .fTuple a
    · exact .kTuple a1 a2
  | dct a r => cases e; exact .base (.dK a)
def isiF (k : Ty) (t : T) : Option Vw := (isi k t).map fun b => .v (.bool b)
def mIsi (k : Ty) (A : M Vw) : M Vw := mUn (isiF k) A
/-- isinstance(e, T) -/
theorem xisi (W : WB) {k : Ty} {e : Expr} {tn : PySem.Str} {A : M Vw} {p p2 pos : Pos} (ha : XE X W e A) (hk : bootBuiltins tn = some (.type k.name)) (hg : Gl X "isinstance") (hm : X.mg "isinstance" = none) (hg2 : Gl X tn) (hm2 : X.mg tn = none)
    (hn : tn ≠ "__name__" := by decide) (hd : (tn == ("__debug__" : Str)) = false := by decide)
    (h1 : starEach [e, .Name tn p2] X.env = (false, eval e X.env) :: starEach [.Name tn p2] X.env := by rfl) (h2 : starEach [.Name tn p2] X.env = (false, eval (.Name tn p2) X.env) :: starEach [] X.env := by rfl)
    (hpl : (backTo pos (starEach [.Name tn p2] X.env)).any (·.1) = false := by rfl) : XE X W (.Call (.Name "isinstance" p) [e, .Name tn p2] [] pos) (mIsi k A) :=
  (pe_callB call_isi hg hm (by decide +kernel) (pa_cons ha (pa_cons (pe_bltn (v := .ty k.name) hg2 hm2 hk rfl hn hd) pa_nil h2) h1) (by decide) (by decide) h1 hpl).weak fun σ H Q ⟨Z, env, rE, h⟩ =>
    ⟨Z, env, rE, (Out.ct.bind h).mono fun x H1 ⟨Z1, env1, a, p1, k1, l1, c1⟩ => by
      obtain ⟨t, et, c2⟩ := Out.look c1
      unfold opt isiF at c2
      cases q : isi k t with
      | none => rw [q] at c2; exact c2.elim
      | some b =>
        rw [q] at c2
        obtain ⟨n, e1, e2⟩ := isi_ok k t b q
        exact ⟨x, .ty k.name, .type n, .type k.name, b, rfl, .ty _, tyX_of hid_le (l1.look1 p1.rep et) e1, kit_ty e2, Out.made c2 p1.rep (.sc fun _ => .bl b)⟩⟩

/-! ### subscripts -/
def ixF : T → T → Option Vw
  | .list ts, .int i => (atI ts i).map .v
  | .tuple ts, .int i => (atI ts i).map .v
  | .ro ts, .int i => (atI ts i).map .v
  | .str z, .int i => if z.length ≤ sizeLine then (atI z.cps.toList i).map fun c => .v (.str ⟨#[c]⟩) else none
  | _, _ => none
theorem RpL.atI {G : Hp} {vs : List V} {ts : List T} {i : Int} {t : T} (r : RpL K G vs ts) (h : L2.atI ts i = some t) : ∃ v, L2.atI vs i = some v ∧ Rp K G v t := by
  unfold L2.atI at h ⊢
  rw [r.length]
  cases e : ixN ts.length i with
  | none => rw [e] at h; cases h
  | some j =>
    rw [e] at h
    exact r.get h
theorem s_ix : OpS K (rIx K) ixF := by
  intro G H x y s t w Q sm hx hy e k
  cases hy with
  | int i =>
    cases hx with
    | @lst a xs ts ha r =>
      simp only [ixF] at e
      cases q : atI ts i with
      | none => rw [q] at e; cases e
      | some u => rw [q] at e; cases e; obtain ⟨v, h1, h2⟩ := r.atI q; exact .inl ⟨_, _, _, v, rfl, rfl, .of ha, h1, k _ _ (.old h2)⟩
    | @tup a xs ts ha r =>
      simp only [ixF] at e
      cases q : atI ts i with
      | none => rw [q] at e; cases e
      | some u => rw [q] at e; cases e; obtain ⟨v, h1, h2⟩ := r.atI q; exact .inr (.inl ⟨_, _, _, v, rfl, rfl, sqT_mono sm ha, h1, k _ _ (.old h2)⟩)
    | @ro a xs ts ha r =>
      simp only [ixF] at e
      cases q : atI ts i with
      | none => rw [q] at e; cases e
      | some u => rw [q] at e; cases e; obtain ⟨v, h1, h2⟩ := r.atI q; exact .inl ⟨_, _, _, v, rfl, rfl, ha, h1, k _ _ (.old h2)⟩
    | str z =>
      simp only [ixF] at e
      split at e
      · rename_i hz
        cases q : atI z.cps.toList i with
        | none => rw [q] at e; cases e
        | some c => rw [q] at e; cases e; exact .inr (.inr ⟨z, i, c, rfl, rfl, hz, q, k _ _ (.sc fun _ => .str _)⟩)
      · cases e
    | _ => cases e
  | _ => cases hx <;> cases e
theorem xix (W : WB) {a b : Expr} {A B : M Vw} {pos : Pos} (ha : XE X W a A) (hb : XE X W b B) (hs : PlainIx b) : XE X W (.Subscript a b pos) (mOp ixF A B) := (pe_ix ix_seq ha hb hs).weak fun _ _ _ => rd_op (g := X.g) s_ix

/-! ### slices -/
def mPo : Option (M Vw) → M (Option Int)
  | none => fun e => .ok none e
  | some A => A.bind fun a => (lk a).bind fun t e => match t with
    | .int i => .ok (some i) e
    | _ => .no
abbrev LO : Rel (Option Int) (Option Int) := fun _ _ _ _ b c => b = c
instance : Back LO := ⟨fun h _ => h⟩
def tO (g : Gk) (W : WB) (m : M (Option Int)) : TO := fun σ H Q => ∃ Z env, RepEnv (kb g W) Z env σ H ∧ Out g W LO σ Q Z env H (m env)
theorem xpnone (W : WB) : PO X none (tO X.g W (mPo none)) := ⟨fun pins s σ H Q I h => po_none.run pins s σ H Q I (by
  obtain ⟨Z, env, rE, h⟩ := h
  exact h none H Z rE.post Kp.refl rfl)⟩
theorem xpsome {W : WB} {e : Expr} {A : M Vw} (ha : XE X W e A) : PO X (some e) (tO X.g W (mPo (some A))) := ⟨fun pins s σ H Q I h => (po_some ha).run pins s σ H Q I (by
  obtain ⟨Z, env, rE, h⟩ := h
  refine ⟨Z, env, rE, (Out.ct.bind h).mono fun x H1 ⟨Z1, env1, a, p1, k1, l1, c1⟩ => ?_⟩
  cases ea : look a env1 with
  | none => rw [lk_none ea] at c1; exact c1.elim
  | some t =>
    rw [lk_some ea] at c1
    have q := l1.look p1.rep ea
    cases t with
    | int i => cases q; exact ⟨i, rfl, c1 (some i) H1 Z1 p1.rep.post Kp.refl rfl⟩
    | _ => exact c1.elim)⟩
def cutT (xs : List T) (lo hi : Option Int) : List T := (xs.drop (HT.sIx xs.length 0 lo)).take (HT.sIx xs.length xs.length hi - HT.sIx xs.length 0 lo)
def slF (t : T) (lo hi : Option Int) : Option Vw := match t with
  | .list ts => some (.fr (.lst (cutT ts lo hi)))
  | .ro ts => some (.fr (.lst (cutT ts lo hi)))
  | .tuple ts => some (.v (.tuple (cutT ts lo hi)))
  | .str z => if z.length ≤ sizeLine then some (.v (.str (cutS z lo hi))) else none
  | _ => none
def mSl (A : M Vw) (L U : M (Option Int)) : M Vw := A.bind fun a => L.bind fun lo => U.bind fun hi => (lk a).bind fun t => opt (slF t lo hi)
abbrev rSl (K : PySem.W.Frag) : V → Option Int → Option Int → Hp → VK → Prop := fun x lo hi H Q => rSlL K x lo hi H Q ∨ rSlA K x lo hi H Q ∨ rSlS x lo hi H Q
theorem sl_all : SlR X (rSl X.K) := sl_list.or (sl_tupA.or sl_str)
theorem RpL.cut {G : Hp} {vs : List V} {ts : List T} (r : RpL K G vs ts) (lo hi : Option Int) : RpL K G (cutV vs lo hi) (cutT ts lo hi) := by
  unfold cutV cutT
  rw [r.length]
  exact (r.drop _).take _
theorem cut_whole {ts : List T} {lo hi : Option Int} (h : HT.sIx ts.length 0 lo = 0 ∧ HT.sIx ts.length ts.length hi = ts.length) : cutT ts lo hi = ts := by
  unfold cutT
  rw [h.1, h.2, List.drop_zero, Nat.sub_zero, List.take_length]
theorem s_sl {G H : Hp} {x : V} {t : T} {lo hi : Option Int} {w : Vw} {Q : VK} (sm : Same G H) (hx : Rp1 K G H x t) (e : slF t lo hi = some w) (k : ∀ z H', New K G H H' w z → Q z H') : rSl K x lo hi H Q := by
  cases hx with
  | lst a r => injection e with e; subst e; exact .inl ⟨_, _, rfl, .of a, fun p hp => k _ _ (New.lst hp (r.cut lo hi))⟩
  | ro a r => injection e with e; subst e; exact .inl ⟨_, _, rfl, a, fun p hp => k _ _ (New.lst hp (r.cut lo hi))⟩
  | tup a r =>
    injection e with e; subst e
    refine .inr (.inl ⟨_, _, rfl, sqT_mono sm a, fun h => ?_, fun _ p hp => k _ _ (New.tup hp (r.cut lo hi))⟩)
    rw [r.length] at h
    rw [cut_whole h] at k
    exact k _ _ (.old (.tup a r))
  | str z =>
    simp only [slF] at e
    split at e
    · rename_i hz; injection e with e; subst e; exact .inr (.inr ⟨z, rfl, hz, k _ _ (.sc fun _ => .str _)⟩)
    · cases e
  | _ => cases e
theorem xsl {W : WB} {a : Expr} {lo hi : Option Expr} {A : M Vw} {L U : M (Option Int)} {p2 pos : Pos} (ha : XE X W a A) (hl : PO X lo (tO X.g W L)) (hu : PO X hi (tO X.g W U)) : XE X W (.Subscript a (.Slice lo hi none p2) pos) (mSl A L U) :=
  (pe_slice sl_all ha hl hu).weak fun σ H Q ⟨Z, env, rE, h⟩ => ⟨Z, env, rE, (Out.ct.bind h).mono fun x H1 ⟨Z1, env1, a, p1, k1, l1, c1⟩ =>
    ⟨Z1, env1, p1.rep, (Out.ct.bind c1).mono fun lo' H2 ⟨Z2, env2, b, p2, k2, l2, c2⟩ => ⟨Z2, env2, p2.rep, (Out.ct.bind c2).mono fun hi' H3 ⟨Z3, env3, c, p3, k3, l3, c3⟩ => by
      have e2 : b = lo' := l2
      have e3 : c = hi' := l3
      subst e2
      subst e3
      obtain ⟨t, et, c4⟩ := Out.look c3
      unfold opt at c4
      cases ef : slF t b c with
      | none => rw [ef] at c4; exact c4.elim
      | some w =>
        rw [ef] at c4
        exact s_sl hid_le (((l1.step p1.rep p2 k2).step p2.rep p3 k3).look1 p3.rep et) ef fun z H' n => Out.made c4 p3.rep n⟩⟩⟩

/-! ### dicts with ints and texts as keys -/
def toKey : T → Option Key
  | .int i => some (.inl i)
  | .str x => some (.inr x)
  | _ => none
theorem toKey_rp {G H : Hp} {x : V} {t : T} {k : Key} (h : Rp1 K G H x t) (e : toKey t = some k) : x = kV k := by
  cases h <;> first | (injection e with e; subst e; rfl) | cases e
theorem keyT_toKey (k : Key) : toKey (keyT k) = some k := by cases k <;> rfl
def findT (kvs : List (T × T)) (k : Key) : Option T := match kvs with
  | [] => none
  | (a, d) :: r => if toKey a = some k then some d else findT r k
theorem findT_rp {G : Hp} {k : Key} : ∀ {vs : List (Key × V)} {ts : List (T × T)}, RpKv K G vs ts → (findT ts k = none ∧ valV vs k = none) ∨ ∃ d v, findT ts k = some d ∧ valV vs k = some v ∧ Rp K G v d
  | _, _, .nil => .inl ⟨rfl, rfl⟩
  | _, _, .cons (k := k') (v := v) (d := d) h r => by
    by_cases e : k' = k
    · subst e
      exact .inr ⟨d, v, by simp [findT, keyT_toKey], by rw [valV_pos rfl], h⟩
    · rcases findT_rp (k := k) r with ⟨h1, h2⟩ | ⟨d', v', h1, h2, h3⟩
      · exact .inl ⟨by simp [findT, keyT_toKey, e, h1], by rw [valV_neg e]; exact h2⟩
      · exact .inr ⟨d', v', by simp [findT, keyT_toKey, e, h1], by rw [valV_neg e]; exact h2, h3⟩
def dgetF : T → T → Option Vw
  | .dict kvs, t => match toKey t with
    | some k => (findT kvs k).map .v
    | none => none
  | _, _ => none
abbrev rDg : R2 := fun x y H Q => ∃ a v, x = .ref a ∧ DGet H a y (some v) ∧ Q v H
theorem s_dget : OpS K rDg dgetF := by
  intro G H x y s t w Q sm hx hy e k
  cases hx with
  | @dct a vs ts ha r =>
    simp only [dgetF] at e
    split at e
    · rename_i kk hk
      rcases findT_rp (k := kk) r with ⟨h1, h2⟩ | ⟨d, v, h1, h2, h3⟩
      · rw [h1] at e; cases e
      · rw [h1] at e; cases e
        refine ⟨a, v, rfl, ?_, k _ _ (.old h3)⟩
        rw [toKey_rp hy hk, ← h2]
        exact DGet.k ha
    · cases e
  | _ => cases e
theorem xdget {W : WB} {o i : Expr} {A B : M Vw} {pos : Pos} (hu : X.A.units + 1 < cLine) (ho : XE X W o A) (hi : XE X W i B) (hs : NoSl i) : XE X W (.Subscript o i pos) (mOp dgetF A B) := (pe_dget hu ho hi hs).weak fun _ _ _ => rd_op (g := X.g) s_dget
def dinF : T → T → Option Vw
  | t, .dict kvs => match toKey t with
    | some k => some (.v (.bool (findT kvs k).isSome))
    | none => none
  | _, _ => none
def dninF : T → T → Option Vw
  | t, .dict kvs => match toKey t with
    | some k => some (.v (.bool (!(findT kvs k).isSome)))
    | none => none
  | _, _ => none
theorem s_din : OpS K (fun y x H Q => ∃ a o, x = .ref a ∧ DGet H a y o ∧ Q (.bl o.isSome) H) dinF := by
  intro G H y x t s w Q sm hy hx e k
  cases hx with
  | @dct a vs ts ha r =>
    simp only [dinF] at e
    split at e
    · rename_i kk hk
      cases e
      refine ⟨a, valV vs kk, rfl, ?_, ?_⟩
      · rw [toKey_rp hy hk]; exact DGet.k ha
      · have : (valV vs kk).isSome = (findT ts kk).isSome := by
          rcases findT_rp (k := kk) r with ⟨h1, h2⟩ | ⟨d, v, h1, h2, h3⟩ <;> rw [h1, h2] <;> rfl
        rw [this]
        exact k _ _ (.sc fun _ => .bl _)
    · cases e
  | _ => cases e
theorem s_dnin : OpS K (fun y x H Q => ∃ a o, x = .ref a ∧ DGet H a y o ∧ Q (.bl (!o.isSome)) H) dninF := by
  intro G H y x t s w Q sm hy hx e k
  cases hx with
  | @dct a vs ts ha r =>
    simp only [dninF] at e
    split at e
    · rename_i kk hk
      cases e
      refine ⟨a, valV vs kk, rfl, ?_, ?_⟩
      · rw [toKey_rp hy hk]; exact DGet.k ha
      · have : (valV vs kk).isSome = (findT ts kk).isSome := by
          rcases findT_rp (k := kk) r with ⟨h1, h2⟩ | ⟨d, v, h1, h2, h3⟩ <;> rw [h1, h2] <;> rfl
        rw [this]
        exact k _ _ (.sc fun _ => .bl _)
    · cases e
  | _ => cases e
/-- {} -/
def mDnew : M Vw := fun e => .ok (.fr (.dct [])) e
theorem xdnew {W : WB} {pos : Pos} : XE X W (.Dict [] [] pos) mDnew := pe_dnewK.weak fun σ H Q ⟨Z, env, rE, h⟩ p hp => Out.made h rE
  ⟨fun b o e => by rw [upd_ne (ne_of_none e hp)]; exact e, p, rfl, hp, [], upd_same, .nil⟩
/-- {k: v, ..}: the keys written -/
def putKT (kvs : List (Key × T)) (k : Key) (t : T) : List (Key × T) :=
  if (kvs.any fun kv => decide (kv.1 = k)) = true then kvs.map (fun kv => if kv.1 = k then (kv.1, t) else kv) else kvs ++ [(k, t)]
def mergeT (kvs more : List (Key × T)) : List (Key × T) := more.foldl (fun acc kv => putKT acc kv.1 kv.2) kvs
theorem KvR.any {G : Hp} {p : Key → Bool} : ∀ {vs : List (Key × V)} {ts : List (Key × T)}, KvR K G vs ts → (vs.any fun kv => p kv.1) = ts.any fun kv => p kv.1
  | _, _, .nil => rfl
  | _, _, .cons h r => by rw [List.any_cons, List.any_cons, KvR.any r]
theorem KvR.map {G : Hp} {k : Key} {v : V} {t : T} (q : Rp K G v t) : ∀ {vs : List (Key × V)} {ts : List (Key × T)}, KvR K G vs ts → KvR K G (vs.map fun kv => if kv.1 = k then (kv.1, v) else kv) (ts.map fun kv => if kv.1 = k then (kv.1, t) else kv)
  | _, _, .nil => .nil
  | _, _, .cons (k := k') h r => by
    rw [List.map_cons, List.map_cons]
    by_cases e : k' = k
    · rw [if_pos e, if_pos e]; exact .cons q (KvR.map q r)
    · rw [if_neg e, if_neg e]; exact .cons h (KvR.map q r)
theorem KvR.append {G : Hp} : ∀ {vs ws : List (Key × V)} {ts us : List (Key × T)}, KvR K G vs ts → KvR K G ws us → KvR K G (vs ++ ws) (ts ++ us)
  | _, _, _, _, .nil, s => s
  | _, _, _, _, .cons h r, s => .cons h (KvR.append r s)
theorem KvR.put {G : Hp} {k : Key} {v : V} {t : T} (q : Rp K G v t) {vs : List (Key × V)} {ts : List (Key × T)} (h : KvR K G vs ts) : KvR K G (putK vs k v) (putKT ts k t) := by
  unfold putK putKT
  rw [KvR.any (p := fun a => decide (a = k)) h]
  split
  · exact h.map q
  · exact h.append (.cons q .nil)
theorem KvR.length {G : Hp} : ∀ {vs : List (Key × V)} {ts : List (Key × T)}, KvR K G vs ts → vs.length = ts.length
  | _, _, .nil => rfl
  | _, _, .cons _ r => by rw [List.length_cons, List.length_cons, KvR.length r]
end
end Ev
end P_Ev4

section P_Ev5
set_option Elab.async false
set_option linter.all false
set_option maxRecDepth 100000
/-! Ev5: statements. -/
namespace Ev
open PySem L2 PySem.Spec
open PyProof.Rows hiding St
set_option autoImplicit false

/-! ### slots stored -/
section
variable {K : KB} {Z Z1 : SetA} {env env1 env2 : Sls} {σ : St} {H0 H H1 : Hp} {r : Vw} {x : V} {t : T} {o : Ob} {a : Addr} {i : Nat}
theorem so_put {s : Sl} {y : V} {p : Addr} (h : SO (env.set i s) (σ.set i (some y)) p) : (∃ o, s = .own o ∧ y = .ref p) ∨ ∃ j o, j ≠ i ∧ env[j]? = some (.own o) ∧ σ[j]? = some (some (.ref p)) := by
  obtain ⟨j, o, h1, h2⟩ := h
  by_cases e : i = j
  · subst e
    have hi : i < env.length := by
      have := (List.getElem?_eq_some_iff.mp h1).1
      simpa using this
    have hj : i < σ.length := by
      have := (List.getElem?_eq_some_iff.mp h2).1
      simpa using this
    rw [List.getElem?_set_self hi] at h1
    rw [List.getElem?_set_self hj] at h2
    injection h1 with h1
    injection h2 with h2; injection h2 with h2
    exact .inl ⟨o, h1, h2⟩
  · rw [List.getElem?_set_ne e] at h1
    rw [List.getElem?_set_ne e] at h2
    exact .inr ⟨j, o, fun z => e z.symm, h1, h2⟩
theorem set_v (rE : RepEnv K Z env σ H) (hi : i < env.length) (hx : Rp K (hid Z env σ H) x t) : Post K Z env σ H Z (env.set i (.v t)) (σ.set i (some x)) H := by
  have hj : i < σ.length := by rw [← rE.len]; exact hi
  have sub : ∀ p, SO (env.set i (.v t)) (σ.set i (some x)) p → SO env σ p := fun p hp => by
    rcases so_put hp with ⟨o, e, _⟩ | ⟨j, o, _, h1, h2⟩
    · cases e
    · exact ⟨j, o, h1, h2⟩
  have sm : Same (hid Z env σ H) (hid Z (env.set i (.v t)) (σ.set i (some x)) H) := fun p u e => by
    obtain ⟨e1, e2, e3⟩ := hid_some.mp e
    exact hid_some.mpr ⟨e1, fun z => e2 (sub p z), e3⟩
  refine ⟨⟨by rw [List.length_set, List.length_set]; exact rE.len, fun j u e => ?_, fun j u e => ?_, fun j k u w b e1 e2 e3 e4 => ?_, rE.zd⟩, fun _ _ e _ => e, fun _ o e => ⟨o, e⟩, fun p e => .inl (sub p e), fun _ e => e, fun _ e => .inl e⟩
  · by_cases ej : i = j
    · subst ej
      rw [List.getElem?_set_self hi] at e
      injection e with e; injection e with e; subst e
      exact ⟨x, List.getElem?_set_self hj, hx.mono sm⟩
    · rw [List.getElem?_set_ne ej] at e
      rw [List.getElem?_set_ne ej]
      obtain ⟨y, q1, q2⟩ := rE.v j u e
      exact ⟨y, q1, q2.mono sm⟩
  · by_cases ej : i = j
    · subst ej
      rw [List.getElem?_set_self hi] at e
      cases e
    · rw [List.getElem?_set_ne ej] at e
      rw [List.getElem?_set_ne ej]
      obtain ⟨b, q1, q2, q3⟩ := rE.own j u e
      exact ⟨b, q1, q2, q3.mono sm fun _ e => e⟩
  · have n1 : i ≠ j := fun z => by subst z; rw [List.getElem?_set_self hi] at e1; cases e1
    have n2 : i ≠ k := fun z => by subst z; rw [List.getElem?_set_self hi] at e2; cases e2
    rw [List.getElem?_set_ne n1] at e1 e3
    rw [List.getElem?_set_ne n2] at e2 e4
    exact rE.inj j k u w b e1 e2 e3 e4
theorem set_own (rE : RepEnv K Z1 env σ H) (hz : ∀ p, Z p → Z1 p) (na : ¬ Z a) (ha : Z1 a) (hi : i < env.length) (hx : RepOb K (hid Z1 env σ H) H a o) :
    RepEnv K Z (env.set i (.own o)) (σ.set i (some (.ref a))) H ∧ ∀ p, SO (env.set i (.own o)) (σ.set i (some (.ref a))) p → SO env σ p ∨ p = a := by
  have hj : i < σ.length := by rw [← rE.len]; exact hi
  have nso := rE.z_so ha
  have sub : ∀ p, SO (env.set i (.own o)) (σ.set i (some (.ref a))) p → SO env σ p ∨ p = a := fun p hp => by
    rcases so_put hp with ⟨o, _, e⟩ | ⟨j, o, _, h1, h2⟩
    · injection e with e; exact .inr e.symm
    · exact .inl ⟨j, o, h1, h2⟩
  have sm : Same (hid Z1 env σ H) (hid Z (env.set i (.own o)) (σ.set i (some (.ref a))) H) := fun p u e => by
    obtain ⟨e1, e2, e3⟩ := hid_some.mp e
    refine hid_some.mpr ⟨fun z => e1 (hz p z), fun z => (sub p z).elim e2 fun z => ?_, e3⟩
    subst z; exact e1 ha
  refine ⟨⟨by rw [List.length_set, List.length_set]; exact rE.len, fun j u e => ?_, fun j u e => ?_, fun j k u w b e1 e2 e3 e4 => ?_, fun p h => rE.zd p (hz p h)⟩, sub⟩
  · by_cases ej : i = j
    · subst ej
      rw [List.getElem?_set_self hi] at e
      cases e
    · rw [List.getElem?_set_ne ej] at e
      rw [List.getElem?_set_ne ej]
      obtain ⟨y, q1, q2⟩ := rE.v j u e
      exact ⟨y, q1, q2.mono sm⟩
  · by_cases ej : i = j
    · subst ej
      rw [List.getElem?_set_self hi] at e
      injection e with e; injection e with e; subst e
      exact ⟨a, List.getElem?_set_self hj, na, hx.mono sm fun _ e => e⟩
    · rw [List.getElem?_set_ne ej] at e
      rw [List.getElem?_set_ne ej]
      obtain ⟨b, q1, q2, q3⟩ := rE.own j u e
      exact ⟨b, q1, fun z => q2 (hz b z), q3.mono sm fun _ e => e⟩
  · by_cases n1 : i = j
    · subst n1
      by_cases n2 : i = k
      · exact n2
      · rw [List.getElem?_set_self hj] at e3
        injection e3 with e3; injection e3 with e3; injection e3 with e3
        rw [List.getElem?_set_ne n2] at e2 e4
        subst e3
        exact (nso ⟨k, w, e2, e4⟩).elim
    · rw [List.getElem?_set_ne n1] at e1 e3
      by_cases n2 : i = k
      · subst n2
        rw [List.getElem?_set_self hj] at e4
        injection e4 with e4; injection e4 with e4; injection e4 with e4
        subst e4
        exact (nso ⟨j, u, e1, e3⟩).elim
      · rw [List.getElem?_set_ne n2] at e2 e4
        exact rE.inj j k u w b e1 e2 e3 e4
end
/-- a result into a slot -/
def put (i : Nat) (r : Vw) : M Unit := fun e => if i < e.length then (match r with
  | .v t => .ok () (e.set i (.v t))
  | .fr o => .ok () (e.set i (.own o))
  | .sl _ => (toT r e).bind fun t e' => .ok () (e'.set i (.v t))) else .no
theorem put_er {i : Nat} {r : Vw} {e e' : Sls} {y : Exc} : put i r e ≠ .er y e' := by
  unfold put
  split
  · intro h
    cases r with
    | v t => cases h
    | fr o => cases h
    | sl j =>
      simp only at h
      cases q : toT (.sl j) e with
      | er y e => exact toT_er q
      | no => rw [q] at h; cases h
      | ok t e2 => rw [q] at h; cases h
  · intro h; cases h
section
variable {K : KB} {Z Z1 : SetA} {env env1 env2 : Sls} {σ : St} {H H1 : Hp} {r : Vw} {x : V} {i : Nat}
theorem put_ok (p1 : Post K Z env σ H Z1 env1 σ H1) (zd : ∀ p, Z p → ∃ o, H p = some o) (l1 : RR K Z1 env1 σ H H1 r x) (e : put i r env1 = .ok () env2) : Post K Z env σ H Z env2 (σ.set i (some x)) H1 := by
  unfold put at e
  split at e
  · rename_i hi
    cases r with
    | v t =>
      injection e with _ e; subst e
      exact (p1.trans (set_v p1.rep hi l1)).lessZ
    | fr o =>
      injection e with _ e; subst e
      obtain ⟨a, rfl, h1, h2, h3⟩ := l1
      have na : ¬ Z a := fun z => by obtain ⟨u, q⟩ := zd a z; rw [h1] at q; cases q
      obtain ⟨r1, s1⟩ := set_own p1.rep p1.zs na h2 hi h3
      exact ⟨r1, p1.fr, p1.dom, fun p hp => (s1 p hp).elim (p1.so p) fun z => .inr (by subst z; exact h1), fun _ z => z, fun _ z => .inl z⟩
    | sl j =>
      simp only at e
      cases q : toT (.sl j) env1 with
      | er y e' => exact (toT_er q).elim
      | no => rw [q] at e; cases e
      | ok t e2 =>
        rw [q] at e
        injection e with _ e; subst e
        obtain ⟨p2, k2, s2⟩ := toT_ok p1.rep l1 q
        have p3 := (p1.trans p2).lessZ
        have hi' : i < e2.length := by rw [p2.rep.len, ← p1.rep.len]; exact hi
        exact p3.trans (set_v p3.rep hi' (s2 Z p1.zs zd))
  · cases e
end

/-! ### plain statements -/
def mSet (i : Nat) (A : M Vw) : MS := A.bind fun r => (put i r).bind fun _ e => .ok .nx e
def mDrop (A : M Vw) : MS := A.bind fun _ e => .ok .nx e
def mRet (A : M Vw) : MS := A.bind fun r e => .ok (.rt r) e
def mPass : MS := fun e => .ok .nx e
def mBreak : MS := fun e => .ok .bk e
def mCont : MS := fun e => .ok .ct e
def mIfS (C : M Bool) (A B : MS) : MS := C.bind fun c => if c then A else B
def mSeq (A B : MS) : MS := A.bind fun f => match f with
  | .nx => B
  | f => fun e => .ok f e
section
variable {g : Gk} {W : WB} {σ : St} {Z : SetA} {env : Sls} {H : Hp} {X : Cx} {D : Ends}
/-- an expression, then a statement's end, told from the start -/
def FromS (g : Gk) (W : WB) (D : Ends) (σ : St) (Z : SetA) (env : Sls) (H : Hp) (Z1 : SetA) (env1 : Sls) (H1 : Hp) (r : R Fl) : Prop :=
  Post (kb g W) Z env σ H Z1 env1 σ H1 ∧ OutS g W D σ Z env H r
theorem FromS.ct : Ct g W σ (FromS g W D σ Z env H) where
  er := fun h cls d H' p rx => h.2 cls d σ H' (h.1.trans p).lessZ (rx.mono (hid_lessZ h.1.zs))
  no := fun h => h.2
  step := fun p k h => ⟨h.1.trans p, h.2⟩
theorem OutS.bind0 {α β : Type} {L : Rel α β} {m : R α} {k : α → MS} (rE : RepEnv (kb g W) Z env σ H) (h : OutS g W D σ Z env H (m.bind k)) :
    Out g W L σ (fun x H1 => ∃ Z1 env1 r, Post (kb g W) Z env σ H Z1 env1 σ H1 ∧ L Z1 env1 H H1 r x ∧ OutS g W D σ Z env H (k r env1)) Z env H m :=
  (FromS.ct.bind (C := FromS g W D σ Z env H) ⟨rE.post, h⟩).mono fun x H1 ⟨Z1, env1, r, p1, k1, l1, c1⟩ => ⟨Z1, env1, r, p1, l1, c1.2⟩
theorem rd_set {i : Nat} {A : M Vw} (h : tS g W (mSet i A) D σ H) : tAsg (tE g W A) (gName i) D σ H := by
  obtain ⟨Z, env, rE, h⟩ := h
  refine ⟨Z, env, rE, (OutS.bind0 rE h).mono fun x H1 ⟨Z1, env1, r, p1, l1, c1⟩ => ?_⟩
  simp only [M.bind] at c1
  cases q : put i r env1 with
  | er y e => exact (put_er q).elim
  | no => rw [q] at c1; exact c1.elim
  | ok u e2 =>
    rw [q] at c1
    cases u
    exact c1 (σ.set i (some x)) H1 Z (put_ok p1 rE.zd l1 q)
theorem xset {W : WB} {i : Nat} {x : PySem.Str} {e : Expr} {A : M Vw} {pos pos' : Pos} (hN : X.N.Nodup) (hi : X.N[i]? = some x) (hx : Loc X.env.scope x) (he : XE X W e A) (hs : swapsWith e (some (.Name x pos')) pos.line X.env = pure false := by rfl)
    (hf : X.fn x = true ∨ X.env.scope.names.lookup x = some .local := by first | exact .inl rfl | exact .inr rfl | assumption) : XS X W (.Assign [.Name x pos'] e pos) (mSet i A) :=
  (ps_set hN hi hx he hs hf).weak fun D σ H h => rd_set (g := X.g) h
theorem xdrop {W : WB} {e : Expr} {A : M Vw} {pos : Pos} (he : XE X W e A) (hs : swapsWith e none pos.line X.env = pure false := by rfl) : XS X W (.Expr e pos) (mDrop A) :=
  (ps_expr he hs).weak fun D σ H ⟨Z, env, rE, h⟩ => ⟨Z, env, rE, (OutS.bind0 rE h).mono fun x H1 ⟨Z1, env1, r, p1, l1, c1⟩ => c1 σ H1 Z1 p1⟩
theorem xret {W : WB} {e : Expr} {A : M Vw} {pos : Pos} (he : XE X W e A) : XS X W (.Return (some e) pos) (mRet A) :=
  (ps_ret he).weak fun D σ H ⟨Z, env, rE, h⟩ => ⟨Z, env, rE, (OutS.bind0 rE h).mono fun x H1 ⟨Z1, env1, r, p1, l1, c1⟩ => c1 x σ H1 Z1 p1 l1⟩
theorem xretn {W : WB} {pos : Pos} : XS X W (.Return none pos) (mRet (mK .none)) :=
  ps_retN.weak fun D σ H ⟨Z, env, rE, h⟩ => h .non σ H Z rE.post .non
theorem xpass {W : WB} {pos : Pos} : XS X W (.Pass pos) mPass := ps_pass.weak fun D σ H ⟨Z, env, rE, h⟩ => h σ H Z rE.post
theorem xbreak {W : WB} {pos : Pos} : XS X W (.Break pos) mBreak := ps_break.weak fun D σ H ⟨Z, env, rE, h⟩ => h σ H Z rE.post
theorem xcont {W : WB} {pos : Pos} : XS X W (.Continue pos) mCont := ps_continue.weak fun D σ H ⟨Z, env, rE, h⟩ => h σ H Z rE.post
theorem xnever {W : WB} {st : Stmt} : XS X W st (fun _ => .no) := ps_never.weak fun D σ H ⟨Z, env, rE, h⟩ => h
theorem xifs {W : WB} {c : Expr} {a b : List Stmt} {C : M Bool} {A B : MS} {pos : Pos} (hc : XT X W c C) (ha : XSs X W a A) (hb : XSs X W b B) : XS X W (.If c a b pos) (mIfS C A B) :=
  (ps_if hc ha hb).weak fun D σ H ⟨Z, env, rE, h⟩ => ⟨Z, env, rE, (OutS.ct.bind h).mono fun c H1 ⟨Z1, env1, a, p1, k1, l1, c1⟩ => by
    have ec : a = c := l1
    subst ec
    cases a with
    | true => rw [if_pos rfl]; exact ⟨Z1, env1, p1.rep, c1⟩
    | false => rw [if_neg Bool.false_ne_true]; exact ⟨Z1, env1, p1.rep, c1⟩⟩
theorem xsnil {W : WB} : XSs X W [] mPass := pss_nil.weak fun D σ H ⟨Z, env, rE, h⟩ => h σ H Z rE.post
theorem xsone {W : WB} {st : Stmt} {A : MS} (h : XS X W st A) : XSs X W [st] A := pss_one h
/-- what follows a statement, told from a later point -/
theorem OutS.later {σ' : St} {Z' : SetA} {env' : Sls} {H' : Hp} (p : Post (kb g W) Z env σ H Z' env' σ' H') {r : R Fl} (h : OutS g W D σ Z env H r) : OutS g W D σ' Z' env' H' r := by
  cases r with
  | ok f e =>
    cases f with
    | nx => exact fun σ2 H2 Z2 p2 => h σ2 H2 Z2 (p.trans p2)
    | bk => exact fun σ2 H2 Z2 p2 => h σ2 H2 Z2 (p.trans p2)
    | ct => exact fun σ2 H2 Z2 p2 => h σ2 H2 Z2 (p.trans p2)
    | rt r => exact fun x σ2 H2 Z2 p2 l => h x σ2 H2 Z2 (p.trans p2) (l.start fun _ => p.none)
  | er x e => exact fun cls d σ2 H2 p2 rx => h cls d σ2 H2 (p.trans p2).lessZ (rx.mono (hid_lessZ p.zs))
  | no => exact h
theorem OutS.imp {D' : Ends} {r : R Fl} (h : OutS g W D σ Z env H r) (h1 : ∀ σ H, D.nx σ H → D'.nx σ H) (h2 : ∀ σ H, D.bk σ H → D'.bk σ H) (h3 : ∀ σ H, D.ct σ H → D'.ct σ H) (h4 : ∀ x H, D.rt x H → D'.rt x H) : OutS g W D' σ Z env H r := by
  cases r with
  | ok f e =>
    cases f with
    | nx => exact fun σ2 H2 Z2 p2 => h1 _ _ (h σ2 H2 Z2 p2)
    | bk => exact fun σ2 H2 Z2 p2 => h2 _ _ (h σ2 H2 Z2 p2)
    | ct => exact fun σ2 H2 Z2 p2 => h3 _ _ (h σ2 H2 Z2 p2)
    | rt r => exact fun x σ2 H2 Z2 p2 l => h4 _ _ (h x σ2 H2 Z2 p2 l)
  | er x e => exact h
  | no => exact h
theorem xscons {W : WB} {st : Stmt} {rest : List Stmt} {A B : MS} (h1 : XS X W st A) (h2 : XSs X W rest B) : XSs X W (st :: rest) (mSeq A B) :=
  (pss_cons h1 h2).weak fun D σ H ⟨Z, env, rE, h⟩ => by
    refine ⟨Z, env, rE, ?_⟩
    unfold mSeq M.bind at h
    cases q : A env with
    | no => rw [q] at h; exact h.elim
    | er x e => rw [q] at h; exact h
    | ok f e =>
      rw [q] at h
      cases f with
      | nx => exact fun σ2 H2 Z2 p2 => ⟨Z2, e, p2.rep, OutS.later p2 h⟩
      | bk => exact h
      | ct => exact h
      | rt r => exact h
end
end Ev
end P_Ev5

section P_Ev6
set_option Elab.async false
set_option linter.all false
set_option maxRecDepth 100000
/-! Ev6: what is walked, targets, for, while. -/
namespace Ev
open PySem L2 PySem.Spec
open PyProof.Rows hiding St
set_option autoImplicit false

/-! ### sources -/
/-- an iterator that yields the data ts, as long as inv stands -/
structure Src (K : KB) (J : It) (ts : List T) (inv : Hp → Hp → Prop) : Prop where
  mono : ∀ {G H G' H'}, inv G H → Same G G' → Same G' H' → inv G' H'
  go : ∀ {G H i}, Same G H → inv G H → i < ts.length → J.go i H
  yld : ∀ {G H i x H'}, Same G H → inv G H → J.yld i H x H' → i < ts.length → ∃ t, ts[i]? = some t ∧ New K G H H' (.v t) x
  stop : ∀ {G H i}, Same G H → inv G H → ts.length ≤ i → J.stop i H
abbrev LI (K : KB) (σ : St) : Rel (List T) It := fun Z env _ H ts J => ∃ inv, Src K J ts inv ∧ inv (hid Z env σ H) H
instance {K : KB} {σ : St} : Back (LI K σ) := ⟨fun h _ => h⟩
def tI (g : Gk) (W : WB) (m : M (List T)) : TI := fun σ H R => ∃ Z env, RepEnv (kb g W) Z env σ H ∧ Out g W (LI (kb g W) σ) σ R Z env H (m env)
abbrev XI (X : Cx) (W : WB) (tg iter : Expr) (m : M (List T)) : Prop := PI X tg iter (tI X.g W m)
theorem _root_.L2.PI.weak {X : Cx} {tg e : Expr} {t t' : TI} (h : PI X tg e t) (w : ∀ σ H Q, t' σ H Q → t σ H Q) : PI X tg e t' := ⟨fun pins s σ H Q I q => h.run pins s σ H Q I (w σ H Q q)⟩

section
variable {K : KB}
theorem src_list {a : Addr} {ts : List T} : Src K (Itl K a) ts fun G _ => ∃ vs, SqL K G a vs ∧ RpL K G vs ts where
  mono := fun ⟨vs, h1, h2⟩ e _ => ⟨vs, e.seq h1, h2.mono e⟩
  go := fun {G H i} sm ⟨vs, h1, h2⟩ hi => by
    have hl : i < vs.length := by rw [h2.length]; exact hi
    exact ⟨vs, vs[i], sm.seq h1, List.getElem?_eq_getElem hl⟩
  yld := fun {G H i x H'} sm ⟨vs, h1, h2⟩ hy hi => by
    obtain ⟨rfl, hx⟩ := hy
    obtain ⟨t, e1, e2⟩ := h2.getV (hx vs (sm.seq h1))
    exact ⟨t, e1, .old e2⟩
  stop := fun sm ⟨vs, h1, h2⟩ hi => ⟨vs, sm.seq h1, by rw [h2.length]; exact hi⟩
theorem src_tup {a : Addr} {ts : List T} : Src K (Itt K a) ts fun G _ => ∃ vs, SqT K G a vs ∧ RpL K G vs ts where
  mono := fun ⟨vs, h1, h2⟩ e _ => ⟨vs, sqT_mono e h1, h2.mono e⟩
  go := fun {G H i} sm ⟨vs, h1, h2⟩ hi => by
    have hl : i < vs.length := by rw [h2.length]; exact hi
    exact ⟨vs, vs[i], sqT_mono sm h1, List.getElem?_eq_getElem hl⟩
  yld := fun {G H i x H'} sm ⟨vs, h1, h2⟩ hy hi => by
    obtain ⟨rfl, hx⟩ := hy
    obtain ⟨t, e1, e2⟩ := h2.getV (hx vs (sqT_mono sm h1))
    exact ⟨t, e1, .old e2⟩
  stop := fun sm ⟨vs, h1, h2⟩ hi => ⟨vs, sqT_mono sm h1, by rw [h2.length]; exact hi⟩
def strTs (z : PySem.Str) : List T := z.cps.toList.map fun c => .str ⟨#[c]⟩
theorem src_str {z : PySem.Str} : Src K (Its z) (strTs z) fun _ _ => True where
  mono := fun _ _ _ => trivial
  go := fun {G H i} _ _ hi => by simpa [strTs, Its] using hi
  yld := fun {G H i x H'} sm _ hy hi => by
    obtain ⟨rfl, c, hc, rfl⟩ := hy
    refine ⟨.str ⟨#[c]⟩, ?_, .sc fun _ => .str _⟩
    unfold strTs
    rw [List.getElem?_map]
    have : z.cps.toList[i]? = some c := by simpa using hc
    rw [this]; rfl
  stop := fun {G H i} _ _ hi => by simpa [strTs, Its] using hi
def rngTs (lo : Int) (n : Nat) : List T := (List.range n).map fun (i : Nat) => T.int (lo + (i : Int))
theorem src_rng {lo : Int} {n : Nat} : Src K (Itr lo n) (rngTs lo n) fun _ _ => True where
  mono := fun _ _ _ => trivial
  go := fun {G H i} _ _ hi => by simpa [rngTs, Itr] using hi
  yld := fun {G H i x H'} sm _ hy hi => by
    obtain ⟨rfl, rfl⟩ := hy
    refine ⟨.int (lo + i), ?_, .sc fun _ => .int _⟩
    have hn : i < n := by simpa [rngTs] using hi
    simp [rngTs, hn]
  stop := fun {G H i} _ _ hi => by simpa [rngTs, Itr] using hi
/-- the items of a thing -/
def itemsOf : T → Option (List T)
  | .list ts => some ts
  | .tuple ts => some ts
  | .ro ts => some ts
  | .str z => some (strTs z)
  | _ => none
def sVal (A : M Vw) : M (List T) := A.bind fun r => (toT r).bind fun t => opt (itemsOf t)
end
section
variable {g : Gk} {W : WB} {σ : St} {Z : SetA} {env : Sls} {H : Hp} {X : Cx} {D : Ends}
def iAny (K : PySem.W.Frag) (tl : TE) : TI := fun σ H R => tl σ H fun x H1 => (∃ a, x = .ref a ∧ (∃ xs, SqL K H1 a xs) ∧ R (Itl K a) H1) ∨ (∃ a, x = .ref a ∧ (∃ xs, SqT K H1 a xs) ∧ R (Itt K a) H1) ∨ ∃ z, x = .str z ∧ R (Its z) H1
theorem pi_any {tg e : Expr} {te : TE} (he : PE X e te) : PI X tg e (iAny X.K te) := ⟨fun pins s σ H R I h => by
  refine thn (he.run pins s σ H _ I h) fun v s1 ⟨y, H1, I1, r1, q⟩ => ?_
  rcases q with ⟨a, rfl, ⟨xs, hq⟩, q⟩ | ⟨a, rfl, ⟨xs, hq⟩, q⟩ | ⟨z, rfl, q⟩
  · cases r1
    obtain ⟨its, rv, pl, _⟩ := I1.list hq
    exact wpAny_pyIter_list pl.isList (pi_one (tk := s1.toks) I1 _ (turn_list a _) ⟨_, Heap.get?_push_size _ rfl, rfl, rfl⟩ q)
  · cases r1
    obtain ⟨its, rv, pl, _⟩ := I1.tuple hq
    exact wpAny_pyIter_tuple (show s1.heap.IsTuple a its.toArray from pl) (pi_one (tk := s1.toks) I1 _ (turn_tuple a _) ⟨_, Heap.get?_push_size _ rfl, rfl, rfl⟩ q)
  · obtain ⟨t, rfl⟩ := r1
    by_cases ha : z.cps.all (· < 128) = true
    · exact wpAny_pyIter_ascii ha (pi_one (tk := s1.toks) I1 _ (turn_str _ z t "str_ascii_iterator" (.inl rfl)) ⟨_, Heap.get?_push_size _ rfl, rfl, rfl⟩ q)
    · exact wpAny_pyIter_wide (by simpa using ha) (pi_one (tk := s1.toks) I1 _ (turn_str _ z t "str_iterator" (.inr rfl)) ⟨_, Heap.get?_push_size _ rfl, rfl, rfl⟩ q)⟩
/-- one result, let go -/
theorem Ct.plain1 {γ : Type} {C : SetA → Sls → Hp → R γ → Prop} (c : Ct g W σ C) {Z1 : SetA} {env1 : Sls} {H1 : Hp} {r : Vw} {x : V} {k : T → M γ} (rE : RepEnv (kb g W) Z env σ H) (p1 : Post (kb g W) Z env σ H Z1 env1 σ H1) (k1 : Kp env env1)
    (l1 : RR (kb g W) Z1 env1 σ H H1 r x) (h : C Z env H ((toT r).bind k env1)) : ∃ t env2, RepEnv (kb g W) Z env2 σ H1 ∧ Post (kb g W) Z env σ H Z env2 σ H1 ∧ Kp env env2 ∧ Rp g.K (hid Z env2 σ H1) x t ∧ C Z env2 H1 (k t env2) := by
  cases q : toT r env1 with
  | er y e => exact (toT_er q).elim
  | no => simp only [M.bind, q, R.bind] at h; exact (c.no h).elim
  | ok t env2 =>
    simp only [M.bind, q, R.bind] at h
    obtain ⟨p2, k2, s2⟩ := toT_ok p1.rep l1 q
    have p3 : Post (kb g W) Z env σ H Z env2 σ H1 := (p1.trans p2).lessZ
    exact ⟨t, env2, p3.rep, p3, k1.trans k2, s2 Z p1.zs rE.zd, c.step p3 (k1.trans k2) h⟩
theorem xival {W : WB} {tg e : Expr} {A : M Vw} (he : XE X W e A) : XI X W tg e (sVal A) :=
  (pi_any he).weak fun σ H R ⟨Z, env, rE, h⟩ => ⟨Z, env, rE, (Out.bind0 rE h).mono fun x H1 ⟨Z1, env1, r, p1, k1, l1, c1⟩ => by
    obtain ⟨t, env2, r2, p2, k2, q2, c2⟩ := Out.ct.plain1 rE p1 k1 l1 c1
    cases q2 with
    | lst a b => exact .inl ⟨_, rfl, ⟨_, .of (hid_le _ _ a)⟩, c2 _ H1 Z r2.post Kp.refl ⟨_, src_list, _, .of a, b⟩⟩
    | ro a b => exact .inl ⟨_, rfl, ⟨_, (hid_le (Z := Z) (env := env2) (σ := σ) (H := H1)).seq a⟩, c2 _ H1 Z r2.post Kp.refl ⟨_, src_list, _, a, b⟩⟩
    | tup a b => exact .inr (.inl ⟨_, rfl, ⟨_, sqT_mono hid_le a⟩, c2 _ H1 Z r2.post Kp.refl ⟨_, src_tup, _, a, b⟩⟩)
    | str z => exact .inr (.inr ⟨z, rfl, c2 _ H1 Z r2.post Kp.refl ⟨_, src_str, trivial⟩⟩)
    | _ => exact c2.elim⟩
/-- range(n), range(a, b) -/
def sRng1 (A : M (List Vw)) : M (List T) := A.bind fun rs => (lks rs).bind fun ts e => match ts with
  | [.int j] => if -(2 ^ 62) ≤ j ∧ j < 2 ^ 62 then .ok (rngTs 0 j.toNat) e else .no
  | _ => .no
def sRng2 (A : M (List Vw)) : M (List T) := A.bind fun rs => (lks rs).bind fun ts e => match ts with
  | [.int i, .int j] => if -(2 ^ 62) ≤ i ∧ i < 2 ^ 62 ∧ -(2 ^ 62) ≤ j ∧ j < 2 ^ 62 then .ok (rngTs i (j - i).toNat) e else .no
  | _ => .no
theorem Out.looks {β : Type} {δ : Type} {L : Rel β δ} {Q : δ → Hp → Prop} {rs : List Vw} {xs : List V} {H0 : Hp} {k : List T → M β} (rE : RepEnv (kb g W) Z env σ H) (l : RRs (kb g W) Z env σ H0 H rs xs) (h : Out g W L σ Q Z env H ((lks rs).bind k env)) :
    ∃ ts, Rp1s g.K (hid Z env σ H) H xs ts ∧ Out g W L σ Q Z env H (k ts env) := by
  simp only [M.bind] at h
  cases q : lks rs env with
  | er y e => exact (lks_er q).elim
  | no => rw [q] at h; exact h.elim
  | ok ts env2 =>
    rw [q] at h
    obtain ⟨e2, r2⟩ := rd_lks rE l q
    subst e2
    exact ⟨ts, r2, h⟩
theorem xirng1 {W : WB} {tg a : Expr} {A : M (List Vw)} {p pos : Pos} (hg : Gl X "range") (hm : X.mg "range" = none) (ha : XA X W [a] A) (hs : starEach [a] X.env = [(false, eval a X.env)] := by rfl) :
    XI X W tg (.Call (.Name "range" p) [a] [] pos) (sRng1 A) :=
  (pi_range1 hg hm ha hs).weak fun σ H R ⟨Z, env, rE, h⟩ => ⟨Z, env, rE, (Out.ct.bind h).mono fun xs H1 ⟨Z1, env1, rs, p1, k1, l1, c1⟩ => by
    obtain ⟨ts, r2, c2⟩ := Out.looks p1.rep l1 c1
    split at c2
    · obtain ⟨x, rfl, h⟩ := r2.one
      cases h
      split at c2
      · rename_i hz
        exact ⟨_, rfl, hz.1, hz.2, c2 _ H1 Z1 p1.rep.post Kp.refl ⟨_, src_rng, trivial⟩⟩
      · exact c2.elim
    · exact c2.elim⟩
theorem xirng2 {W : WB} {tg a b : Expr} {A : M (List Vw)} {p pos : Pos} (hg : Gl X "range") (hm : X.mg "range" = none) (ha : XA X W [a, b] A) (hs : starEach [a, b] X.env = [(false, eval a X.env), (false, eval b X.env)] := by rfl) (hs2 : starEach [b] X.env = [(false, eval b X.env)] := by rfl) :
    XI X W tg (.Call (.Name "range" p) [a, b] [] pos) (sRng2 A) :=
  (pi_range2 hg hm ha hs hs2).weak fun σ H R ⟨Z, env, rE, h⟩ => ⟨Z, env, rE, (Out.ct.bind h).mono fun xs H1 ⟨Z1, env1, rs, p1, k1, l1, c1⟩ => by
    obtain ⟨ts, r2, c2⟩ := Out.looks p1.rep l1 c1
    split at c2
    · obtain ⟨x, y, rfl, h, h'⟩ := r2.two
      cases h
      cases h'
      split at c2
      · rename_i hz
        exact ⟨_, _, rfl, hz, c2 _ H1 Z1 p1.rep.post Kp.refl ⟨_, src_rng, trivial⟩⟩
      · exact c2.elim
    · exact c2.elim⟩

/-! ### targets -/
/-- a target that data is bound to -/
structure XG (X : Cx) (tg : Expr) (b : T → M Unit) (t : TG) : Prop where
  pg : PG X tg t
  ok : ∀ {W : WB} {Z : SetA} {env : Sls} {σ : St} {H : Hp} {x : V} {d : T} {env' : Sls} {Q : St → Hp → Prop}, RepEnv (kb X.g W) Z env σ H → Rp X.K (hid Z env σ H) x d → b d env = .ok () env' → (∀ σ', Post (kb X.g W) Z env σ H Z env' σ' H → Q σ' H) → t x σ H Q
  er : ∀ {d : T} {env e : Sls} {y : Exc}, b d env ≠ .er y e
  kp : ∀ {d : T} {env e : Sls}, b d env = .ok () e → Kp env e
structure XGs (X : Cx) (tgs : List Expr) (b : List T → M Unit) (t : TGs) : Prop where
  pg : PGs X tgs t
  ok : ∀ {W : WB} {Z : SetA} {env : Sls} {σ : St} {H : Hp} {xs : List V} {ds : List T} {env' : Sls} {Q : St → Hp → Prop}, RepEnv (kb X.g W) Z env σ H → RpL X.K (hid Z env σ H) xs ds → b ds env = .ok () env' → (∀ σ', Post (kb X.g W) Z env σ H Z env' σ' H → Q σ' H) → t xs σ H Q
  er : ∀ {ds : List T} {env e : Sls} {y : Exc}, b ds env ≠ .er y e
  kp : ∀ {ds : List T} {env e : Sls}, b ds env = .ok () e → Kp env e
def bName (i : Nat) (d : T) : M Unit := fun e => if i < e.length then .ok () (e.set i (.v d)) else .no
def bNil (ds : List T) : M Unit := fun e => match ds with
  | [] => .ok () e
  | _ => .no
def bCons (b : T → M Unit) (bs : List T → M Unit) (ds : List T) : M Unit := fun e => match ds with
  | [] => .no
  | d :: ds => (b d e).bind fun _ => bs ds
def bTup (n : Nat) (bs : List T → M Unit) (d : T) : M Unit := fun e => match d with
  | .tuple ds => if ds.length = n then bs ds e else .no
  | _ => .no
theorem gname {i : Nat} {x : PySem.Str} {pos : Pos} (hN : X.N.Nodup) (hi : X.N[i]? = some x) (hx : Loc X.env.scope x) (hf : X.fn x = true ∨ X.env.scope.names.lookup x = some .local := by first | exact .inl rfl | exact .inr rfl | assumption) : XG X (.Name x pos) (bName i) (gName i) where
  pg := pg_name hN hi hx hf
  ok := fun {W Z env σ H x d env' Q} rE hx e k => by
    unfold bName at e
    split at e
    · rename_i hz; injection e with _ e; subst e
      exact k _ (set_v rE hz hx)
    · cases e
  er := fun {d env e y} h => by unfold bName at h; split at h <;> cases h
  kp := fun {d env e} h j f => by
    unfold bName at h
    split at h
    · rename_i hz; injection h with _ h; subst h
      by_cases q : i = j
      · subst q; exact .inr ⟨_, List.getElem?_set_self hz⟩
      · unfold Full; rw [List.getElem?_set_ne q]; exact f
    · cases h
theorem gnil : XGs X [] bNil gNil where
  pg := pgs_nil
  ok := fun {W Z env σ H xs ds env' Q} rE hx e k => by
    cases hx with
    | nil => injection e with _ e; subst e; exact ⟨rfl, k _ rE.post⟩
    | cons _ _ => cases e
  er := fun {ds env e y} h => by cases ds <;> cases h
  kp := fun {ds env e} h => by
    cases ds with
    | nil => injection h with _ h; subst h; exact Kp.refl
    | cons _ _ => cases h
theorem gcons {e : Expr} {es : List Expr} {b : T → M Unit} {bs : List T → M Unit} {t : TG} {ts : TGs} (h1 : XG X e b t) (h2 : XGs X es bs ts)
    (hs : (assignEach (e :: es) X.env).map (fun x => x.snd) = assign e X.env :: (assignEach es X.env).map (fun x => x.snd) := by rfl) : XGs X (e :: es) (bCons b bs) (gCons t ts) where
  pg := pgs_cons h1.pg h2.pg hs
  ok := fun {W Z env σ H xs ds env' Q} rE hx e k => by
    cases hx with
    | nil => cases e
    | cons a r =>
      rename_i x xs d ds
      simp only [bCons] at e
      cases q : b d env with
      | er y e' => exact (h1.er q).elim
      | no => rw [q] at e; cases e
      | ok u env1 =>
        cases u
        rw [q] at e
        exact ⟨x, xs, rfl, h1.ok rE a q fun σ1 p1 => h2.ok p1.rep (r.mono p1.same) e fun σ2 p2 => k σ2 (p1.trans p2)⟩
  er := fun {ds env e y} h => by
    cases ds with
    | nil => cases h
    | cons d ds =>
      simp only [bCons] at h
      cases q : b d env with
      | er y e' => exact h1.er q
      | no => rw [q] at h; cases h
      | ok u env1 => rw [q] at h; exact h2.er h
  kp := fun {ds env e} h => by
    cases ds with
    | nil => cases h
    | cons d ds =>
      simp only [bCons] at h
      cases q : b d env with
      | er y e' => exact (h1.er q).elim
      | no => rw [q] at h; cases h
      | ok u env1 => cases u; rw [q] at h; exact (h1.kp q).trans (h2.kp h)
theorem gtup {es : List Expr} {k n : Nat} {bs : List T → M Unit} {ts : TGs} {pos : Pos} (hc : X.calm = true) (h : XGs X es bs ts) (hn : (assignEach es X.env).length = n := by rfl) (hst : (assignEach es X.env).findIdx? (·.1) = none := by rfl) : XG X (.Tuple es k pos) (bTup n bs) (gTup X.K n ts) where
  pg := pg_tup hc h.pg hn hst
  ok := fun {W Z env σ H x d env' Q} rE hx e k => by
    cases hx with
    | tup a r =>
      simp only [bTup] at e
      split at e
      · rename_i hz; exact ⟨_, _, rfl, sqT_mono hid_le a, by rw [r.length]; exact hz, h.ok rE r e k⟩
      · cases e
    | _ => cases e
  er := fun {d env e y} q => by
    cases d <;> simp only [bTup] at q <;> first | (cases q; done) | (split at q <;> first | exact h.er q | cases q)
  kp := fun {d env e} q => by
    cases d <;> simp only [bTup] at q <;> first | (cases q; done) | (split at q <;> first | exact h.kp q | cases q)
/-- a, b = e, e a tuple -/
def mUnp (A : M Vw) (b : T → M Unit) : MS := A.bind fun r => (toT r).bind fun d => (b d).bind fun _ e => .ok .nx e
theorem xunp {W : WB} {tg e : Expr} {A : M Vw} {b : T → M Unit} {t : TG} {pos : Pos} (he : XE X W e A) (hg : XG X tg b t) (hs : swapsWithSole [tg] e pos.line X.env = pure false := by rfl) (hw : swappedStores [tg] e X.env = pure none := by rfl) (h1 : (assignEach [tg] X.env).map (fun x => x.snd) = [assign tg X.env] := by rfl) : XS X W (.Assign [tg] e pos) (mUnp A b) :=
  (ps_asg he hg.pg hs hw h1).weak fun D σ H ⟨Z, env, rE, h⟩ => ⟨Z, env, rE, (OutS.bind0 rE h).mono fun x H1 ⟨Z1, env1, r, p1, l1, c1⟩ => by
    simp only [M.bind] at c1
    cases q : toT r env1 with
    | er y e => exact (toT_er q).elim
    | no => rw [q] at c1; exact c1.elim
    | ok d env2 =>
      rw [q] at c1
      simp only [R.bind, M.bind] at c1
      obtain ⟨p2, k2, s2⟩ := toT_ok p1.rep l1 q
      have p3 := (p1.trans p2).lessZ
      cases q2 : b d env2 with
      | er y e => exact (hg.er q2).elim
      | no => rw [q2] at c1; exact c1.elim
      | ok u env3 =>
        cases u
        rw [q2] at c1
        exact hg.ok p3.rep (s2 Z p1.zs rE.zd) q2 fun σ' p4 => c1 σ' H1 Z (p3.trans p4)⟩
/-- a, b, .. = a list -/
def bLst (n : Nat) (bs : List T → M Unit) (d : T) : M Unit := fun e => match d with
  | .list ds => if ds.length = n then bs ds e else .no
  | _ => .no
theorem glst {es : List Expr} {k n : Nat} {bs : List T → M Unit} {ts : TGs} {pos : Pos} (hc : X.calm = true) (h : XGs X es bs ts) (hn : (assignEach es X.env).length = n := by rfl) (hst : (assignEach es X.env).findIdx? (·.1) = none := by rfl) : XG X (.Tuple es k pos) (bLst n bs) (gLst X.K n ts) where
  pg := pg_lst hc h.pg hn hst
  ok := fun {W Z env σ H x d env' Q} rE hx e k => by
    cases hx with
    | lst a r =>
      simp only [bLst] at e
      split at e
      · rename_i hz; exact ⟨_, _, rfl, .of (hid_le _ _ a), by rw [r.length]; exact hz, h.ok rE r e k⟩
      · cases e
    | _ => cases e
  er := fun {d env e y} q => by
    cases d <;> simp only [bLst] at q <;> first | (cases q; done) | (split at q <;> first | exact h.er q | cases q)
  kp := fun {d env e} q => by
    cases d <;> simp only [bLst] at q <;> first | (cases q; done) | (split at q <;> first | exact h.kp q | cases q)

/-! ### for -/
def afterTurn (next : MS) : Fl → MS
  | .nx => next
  | .ct => next
  | .bk => fun e => .ok .nx e
  | .rt r => fun e => .ok (.rt r) e
def forL (b : T → M Unit) (B : MS) : List T → MS
  | [] => fun e => .ok .nx e
  | t :: ts => (b t).bind fun _ => B.bind (afterTurn (forL b B ts))
def mFor (S : M (List T)) (b : T → M Unit) (B : MS) : MS := S.bind fun ts => forL b B ts
theorem xfor {W : WB} {tg iter : Expr} {body : List Stmt} {S : M (List T)} {b : T → M Unit} {t : TG} {B : MS} {pos : Pos} (hp : PassesOwn (model X.prog X.w) X.A X.env X.xe) (hc : X.calm = true) (hi : XI X W tg iter S) (hg : XG X tg b t) (hb : XSs X W body B) (hs : ∀ x, foldedSetIterable iter X.env x = pure x := by intro _; rfl) :
    XS X W (.For tg iter body [] pos) (mFor S b B) :=
  (ps_for hp hc hi hg.pg hb hs).weak fun D σ0 H0 ⟨Z, env0, rE, h⟩ => ⟨Z, env0, rE, (OutS.bind0 rE h).mono fun J H1 ⟨Z1, env1, ts, p1, ⟨inv, sr, hinv⟩, c1⟩ => by
    have p1' := p1.lessZ
    refine ⟨fun i m σ H => m = ts.length - i ∧ i ≤ ts.length ∧ ∃ env, Post (kb X.g W) Z env0 σ0 H0 Z env σ H ∧ inv (hid Z env σ H) H ∧ OutS X.g W D σ0 Z env0 H0 (forL b B (ts.drop i) env),
      ⟨ts.length, by simp, Nat.zero_le _, env1, p1', sr.mono hinv (hid_lessZ p1.zs) hid_le, by simpa using c1⟩, ?_⟩
    rintro i m σ H ⟨rfl, hi, env, p, hv, ho⟩
    by_cases hlt : i < ts.length
    · refine .inr ⟨sr.go hid_le hv hlt, fun σ' H' => i + 1 ≤ ts.length ∧ ∃ env, Post (kb X.g W) Z env0 σ0 H0 Z env σ' H' ∧ inv (hid Z env σ' H') H' ∧ OutS X.g W D σ0 Z env0 H0 (forL b B (ts.drop (i + 1)) env),
        fun σ' H' hN => ⟨ts.length - (i + 1), by omega, rfl, hN⟩, fun x H' hy => ?_⟩
      obtain ⟨d, hd, sm, hx⟩ := sr.yld hid_le hv hy hlt
      have ed : ts.drop i = d :: ts.drop (i + 1) := by
        rw [List.drop_eq_getElem_cons hlt]
        have := List.getElem?_eq_getElem hlt
        rw [hd] at this
        injection this with this
        rw [this]
      rw [ed] at ho
      simp only [forL, M.bind] at ho
      -- the heap may have grown by what was yielded
      have s1 : Same (hid Z env σ H) (hid Z env σ H') := fun q o e => by
        obtain ⟨h1, h2, h3⟩ := hid_some.mp e
        exact hid_some.mpr ⟨h1, h2, sm _ _ h3⟩
      have rE1 := p.rep
      have pg : Post (kb X.g W) Z env σ H Z env σ H' := by
        refine ⟨⟨rE1.len, fun i t e => ?_, fun i o e => ?_, rE1.inj, fun p hz => ?_⟩, fun p o e _ => sm p o e, fun p o e => ⟨o, sm p o e⟩, fun _ e => .inl e, fun _ e => e, fun _ e => .inl e⟩
        · obtain ⟨x, h1, h2⟩ := rE1.v i t e; exact ⟨x, h1, h2.mono s1⟩
        · obtain ⟨a, h1, h2, h3⟩ := rE1.own i o e; exact ⟨a, h1, h2, h3.mono s1 fun u e => sm a u e⟩
        · obtain ⟨o, e⟩ := rE1.zd p hz; exact ⟨o, sm p o e⟩
      have hxd : Rp X.K (hid Z env σ H') x d := hx _ s1 fun q o e1 e2 => by
        refine hid_some.mpr ⟨fun hz => ?_, fun so => ?_, e2⟩
        · obtain ⟨o', e⟩ := rE1.zd q hz
          rw [e1] at e; cases e
        · obtain ⟨o', e⟩ := rE1.so_dom so
          rw [e1] at e; cases e
      cases q : b d env with
      | er y e => exact (hg.er q).elim
      | no => rw [q] at ho; exact ho.elim
      | ok u env2 =>
        cases u
        rw [q] at ho
        simp only [R.bind, M.bind] at ho
        refine hg.ok pg.rep hxd q fun σ2 p2 => ⟨Z, env2, p2.rep, ?_⟩
        have p3 := (p.trans pg).trans p2
        have v3 : inv (hid Z env2 σ2 H') H' := sr.mono hv (fun q o e => p2.same _ _ (s1 _ _ e)) hid_le
        cases qB : B env2 with
        | no => rw [qB] at ho; exact ho.elim
        | er y e => rw [qB] at ho; exact fun cls d' σ' H'' p4 rx => ho cls d' σ' H'' (p3.trans p4) rx
        | ok f env3 =>
          rw [qB] at ho
          have ho' : OutS X.g W D σ0 Z env0 H0 (afterTurn (forL b B (ts.drop (i + 1))) f env3) := ho
          cases f with
          | nx => exact fun σ' H'' Z' p4 => ⟨hlt, env3, p3.trans p4.lessZ, sr.mono v3 p4.lessZ.same hid_le, ho'⟩
          | ct => exact fun σ' H'' Z' p4 => ⟨hlt, env3, p3.trans p4.lessZ, sr.mono v3 p4.lessZ.same hid_le, ho'⟩
          | bk => exact fun σ' H'' Z' p4 => ho' σ' H'' Z' (p3.trans p4)
          | rt r => exact fun x σ' H'' Z' p4 l => ho' x σ' H'' Z' (p3.trans p4) (l.start fun _ => p3.none)
    · refine .inl ⟨sr.stop hid_le hv (by omega), ?_⟩
      have : ts.drop i = [] := List.drop_eq_nil_of_le (by omega)
      rw [this] at ho
      exact ho σ H Z p⟩

/-! ### while -/
def whileN (C : M Bool) (B : MS) : Nat → MS
  | 0 => fun _ => .no
  | n + 1 => C.bind fun c => if c then B.bind (afterTurn (whileN C B n)) else fun e => .ok .nx e
def isNo {α : Type} : R α → Prop
  | .no => True
  | _ => False
open Classical in
noncomputable def mWhile (C : M Bool) (B : MS) : MS := fun e => if h : ∃ n, ¬ isNo (whileN C B n e) then whileN C B (Classical.choose h) e else .no
theorem whileN_step {C : M Bool} {B : MS} : ∀ (n : Nat) (e : Sls), ¬ isNo (whileN C B n e) → whileN C B (n + 1) e = whileN C B n e
  | 0, e, h => (h trivial).elim
  | n + 1, e, h => by
    have e1 : ∀ k, whileN C B (k + 1) e = (C e).bind fun c => if c then B.bind (afterTurn (whileN C B k)) else fun e => .ok .nx e := fun k => rfl
    rw [e1] at h
    rw [e1, e1]
    cases q : C e with
    | no => rfl
    | er y e' => rfl
    | ok c e2 =>
      rw [q] at h
      cases c with
      | false => rfl
      | true =>
        have h2 : ¬ isNo ((B e2).bind (afterTurn (whileN C B n))) := h
        show (B e2).bind (afterTurn (whileN C B (n + 1))) = (B e2).bind (afterTurn (whileN C B n))
        cases qB : B e2 with
        | no => rfl
        | er y e' => rfl
        | ok f e3 =>
          rw [qB] at h2
          cases f with
          | nx => exact whileN_step n e3 h2
          | ct => exact whileN_step n e3 h2
          | bk => rfl
          | rt r => rfl
theorem whileN_le {C : M Bool} {B : MS} {n m : Nat} {e : Sls} (h : ¬ isNo (whileN C B n e)) (hm : n ≤ m) : whileN C B m e = whileN C B n e := by
  induction m with
  | zero => cases (show n = 0 by omega); rfl
  | succ m ih =>
    by_cases q : n = m + 1
    · rw [q]
    · have e1 := ih (by omega)
      rw [whileN_step m e (by rw [e1]; exact h), e1]
theorem mWhile_of {C : M Bool} {B : MS} {n : Nat} {e : Sls} (h : ¬ isNo (whileN C B n e)) : mWhile C B e = whileN C B n e := by
  unfold mWhile
  rw [dif_pos ⟨n, h⟩]
  have hc := Classical.choose_spec (p := fun n => ¬ isNo (whileN C B n e)) ⟨n, h⟩
  by_cases q : n ≤ Classical.choose (p := fun n => ¬ isNo (whileN C B n e)) ⟨n, h⟩
  · exact whileN_le h q
  · exact (whileN_le hc (by omega)).symm
theorem mWhile_some {C : M Bool} {B : MS} {e : Sls} (h : ¬ isNo (mWhile C B e)) : ∃ n, ¬ isNo (whileN C B n e) ∧ mWhile C B e = whileN C B n e := by
  by_cases q : ∃ n, ¬ isNo (whileN C B n e)
  · obtain ⟨n, q⟩ := q
    exact ⟨n, q, mWhile_of q⟩
  · unfold mWhile at h
    rw [dif_neg q] at h
    exact (h trivial).elim
theorem OutS.notNo {r : R Fl} (h : OutS g W D σ Z env H r) : ¬ isNo r := by
  cases r with
  | no => exact h.elim
  | ok f e => exact fun z => z
  | er y e => exact fun z => z
theorem xwhile {W : WB} {c : Expr} {body : List Stmt} {C : M Bool} {B : MS} {pos : Pos} (hp : PassesOwn (model X.prog X.w) X.A X.env X.xe) (hc : XT X W c C) (hb : XSs X W body B) : XS X W (.While c body [] pos) (mWhile C B) :=
  (ps_while hp hc hb).weak fun D σ0 H0 ⟨Z, env0, rE, h⟩ => by
    obtain ⟨n, hn, en⟩ := mWhile_some h.notNo
    rw [en] at h
    refine ⟨fun m σ H => ∃ env, Post (kb X.g W) Z env0 σ0 H0 Z env σ H ∧ OutS X.g W D σ0 Z env0 H0 (whileN C B m env), ⟨n, env0, rE.post, h⟩, ?_⟩
    rintro m σ H ⟨env, p, ho⟩
    cases m with
    | zero => exact ho.elim
    | succ m =>
      unfold whileN at ho
      have ctb : Ct X.g W σ fun Z1 env1 H1 (r : R Fl) => Post (kb X.g W) Z env0 σ0 H0 Z1 env1 σ H1 ∧ OutS X.g W D σ0 Z env0 H0 r :=
        ⟨fun h cls d H' q rx => h.2 cls d σ H' (h.1.trans q).lessZ (rx.mono (hid_lessZ h.1.zs)), fun h => h.2, fun q k h => ⟨h.1.trans q, h.2⟩⟩
      refine ⟨Z, env, p.rep, (ctb.bind (L := LB) (m := C env) ⟨p, ho⟩).mono fun k H1 ⟨Z1, env1, a, p1, k1, l1, c1⟩ => ?_⟩
      have ec : a = k := l1
      subst ec
      obtain ⟨p2, c1⟩ := c1
      cases a with
      | false =>
        rw [if_neg Bool.false_ne_true]
        exact c1 σ H1 Z1 p2
      | true =>
        rw [if_pos rfl]
        refine ⟨fun σ' H' => ∃ env, Post (kb X.g W) Z env0 σ0 H0 Z env σ' H' ∧ OutS X.g W D σ0 Z env0 H0 (whileN C B m env), fun σ' H' hN => ⟨m, by omega, hN⟩, Z1, env1, p1.rep, ?_⟩
        rw [if_pos rfl] at c1
        unfold M.bind at c1
        cases qB : B env1 with
        | no => rw [qB] at c1; exact c1.elim
        | er y e => rw [qB] at c1; exact fun cls d' σ' H'' p4 rx => c1 cls d' σ' H'' (p2.trans p4).lessZ (rx.mono (hid_lessZ p2.zs))
        | ok f env3 =>
          rw [qB] at c1
          have ho' : OutS X.g W D σ0 Z env0 H0 (afterTurn (whileN C B m) f env3) := c1
          cases f with
          | nx => exact fun σ' H'' Z' p4 => ⟨env3, (p2.trans p4).lessZ, ho'⟩
          | ct => exact fun σ' H'' Z' p4 => ⟨env3, (p2.trans p4).lessZ, ho'⟩
          | bk => exact fun σ' H'' Z' p4 => ho' σ' H'' Z' (p2.trans p4)
          | rt r => exact fun x σ' H'' Z' p4 l => ho' x σ' H'' Z' (p2.trans p4) (l.start fun _ => p2.none)
end
end Ev
end P_Ev6

section P_Ev7
set_option Elab.async false
set_option linter.all false
set_option maxRecDepth 100000
/-! Ev7: list comprehensions. -/
namespace Ev
open PySem L2 PySem.Spec
open PyProof.Rows hiding St
set_option autoImplicit false

def wipeE (e : Sls) : List Nat → Sls
  | [] => e
  | v :: vs => (wipeE e vs).set v .non
def nox {α : Type} (m : M α) : M α := fun e => match m e with
  | .ok a e => .ok a e
  | _ => .no
/-- nothing may be raised -/
def WF (W : WB) : WB := ⟨fun _ _ _ _ => False, W.β⟩
def clear (e : Sls) (vs : List Nat) : Bool := vs.all fun i => match e[i]? with
  | some .non => true
  | _ => false
def lcL (b : T → M Unit) (C : M Bool) (E : M Vw) (vs : List Nat) (acc : List T) : List T → M Vw
  | [] => fun e => .ok (.fr (.lst acc)) e
  | t :: ts => (nox (b t)).bind fun _ => (nox C).bind fun c => if c then (nox E).bind fun r => (nox (toT r)).bind fun u e => if acc.length < sizeLine then lcL b C E vs (acc ++ [u]) ts (wipeE e vs) else .no
      else fun e => lcL b C E vs acc ts (wipeE e vs)
def mLc (S : M (List T)) (b : T → M Unit) (C : M Bool) (E : M Vw) (vs : List Nat) : M Vw := S.bind fun ts e => if clear e vs then lcL b C E vs [] ts e else .no
def cYes : M Bool := fun e => .ok true e

section
variable {K : KB} {Z Z1 : SetA} {env env1 : Sls} {σ σ1 : St} {H H1 : Hp} {vs : List Nat}
theorem wipeE_len : ∀ vs : List Nat, (wipeE env vs).length = env.length
  | [] => rfl
  | v :: vs => by unfold wipeE; rw [List.length_set, wipeE_len vs]
theorem wipeE_out {i : Nat} : ∀ {vs : List Nat}, i ∉ vs → (wipeE env vs)[i]? = env[i]?
  | [], _ => rfl
  | v :: vs, h => by
    have h1 : v ≠ i := fun e => h (by rw [e]; exact List.mem_cons_self)
    unfold wipeE
    rw [List.getElem?_set_ne h1]
    exact wipeE_out fun q => h (List.mem_cons_of_mem _ q)
theorem wipeE_in {i : Nat} {s : Sl} : ∀ {vs : List Nat}, i ∈ vs → (wipeE env vs)[i]? = some s → s = .non
  | v :: vs, h, e => by
    unfold wipeE at e
    by_cases q : v = i
    · subst q
      rw [List.getElem?_set] at e
      simp only [if_pos] at e
      split at e
      · injection e with e; exact e.symm
      · cases e
    · rw [List.getElem?_set_ne q] at e
      rcases List.mem_cons.mp h with z | z
      · exact (q z.symm).elim
      · exact wipeE_in z e
theorem wipeE_some {i : Nat} {s : Sl} (h : (wipeE env vs)[i]? = some s) (hs : s ≠ .non) : env[i]? = some s ∧ i ∉ vs := by
  by_cases q : i ∈ vs
  · exact (hs (wipeE_in q h)).elim
  · rw [wipeE_out q] at h; exact ⟨h, q⟩
theorem wipe_so {p : Addr} (h : SO (wipeE env vs) (wipe σ vs) p) : SO env σ p := by
  obtain ⟨i, o, h1, h2⟩ := h
  obtain ⟨h3, h4⟩ := wipeE_some h1 (by intro e; cases e)
  rw [wipe_out h4] at h2
  exact ⟨i, o, h3, h2⟩
/-- some slots forgotten, in both -/
theorem wipe_post (rE : RepEnv K Z env σ H) : Post K Z env σ H Z (wipeE env vs) (wipe σ vs) H := by
  have sm : Same (hid Z env σ H) (hid Z (wipeE env vs) (wipe σ vs) H) := fun p u e => by
    obtain ⟨e1, e2, e3⟩ := hid_some.mp e
    exact hid_some.mpr ⟨e1, fun z => e2 (wipe_so z), e3⟩
  refine ⟨⟨by rw [wipeE_len, wipe_length]; exact rE.len, fun j u e => ?_, fun j u e => ?_, fun j k u w b e1 e2 e3 e4 => ?_, rE.zd⟩, fun _ _ e _ => e, fun _ o e => ⟨o, e⟩, fun p e => .inl (wipe_so e), fun _ e => e, fun _ e => .inl e⟩
  · obtain ⟨h3, h4⟩ := wipeE_some e (by intro e; cases e)
    obtain ⟨x, h5, h6⟩ := rE.v j u h3
    exact ⟨x, by rw [wipe_out h4]; exact h5, h6.mono sm⟩
  · obtain ⟨h3, h4⟩ := wipeE_some e (by intro e; cases e)
    obtain ⟨a, h5, h6, h7⟩ := rE.own j u h3
    exact ⟨a, by rw [wipe_out h4]; exact h5, h6, h7.mono sm fun _ e => e⟩
  · obtain ⟨h3, h4⟩ := wipeE_some e1 (by intro e; cases e)
    obtain ⟨h5, h6⟩ := wipeE_some e2 (by intro e; cases e)
    rw [wipe_out h4] at e3
    rw [wipe_out h6] at e4
    exact rE.inj j k u w b h3 h5 e3 e4
/-- the slots alone are another's, where the environment says nothing of them -/
theorem swap_post (rE : RepEnv K Z env σ H) (hc : ∀ i, i ∈ vs → ∀ s, env[i]? = some s → s = .non) (hs : ∀ i, i ∉ vs → σ1[i]? = σ[i]?) (hl : σ1.length = σ.length) : Post K Z env σ H Z env σ1 H := by
  have key : ∀ (i : Nat) (s : Sl), env[i]? = some s → s ≠ .non → σ1[i]? = σ[i]? := fun i s e n => hs i fun q => n (hc i q s e)
  have so : ∀ p, SO env σ1 p ↔ SO env σ p := fun p => by
    constructor
    · rintro ⟨i, o, h1, h2⟩; exact ⟨i, o, h1, by rw [← key i _ h1 (by intro e; cases e)]; exact h2⟩
    · rintro ⟨i, o, h1, h2⟩; exact ⟨i, o, h1, by rw [key i _ h1 (by intro e; cases e)]; exact h2⟩
  have sm : Same (hid Z env σ H) (hid Z env σ1 H) := fun p u e => by
    obtain ⟨e1, e2, e3⟩ := hid_some.mp e
    exact hid_some.mpr ⟨e1, fun z => e2 ((so p).mp z), e3⟩
  refine ⟨⟨by rw [hl]; exact rE.len, fun j u e => ?_, fun j u e => ?_, fun j k u w b e1 e2 e3 e4 => ?_, rE.zd⟩, fun _ _ e _ => e, fun _ o e => ⟨o, e⟩, fun p e => .inl ((so p).mp e), fun _ e => e, fun _ e => .inl e⟩
  · obtain ⟨x, h5, h6⟩ := rE.v j u e
    exact ⟨x, by rw [key j _ e (by intro e; cases e)]; exact h5, h6.mono sm⟩
  · obtain ⟨a, h5, h6, h7⟩ := rE.own j u e
    exact ⟨a, by rw [key j _ e (by intro e; cases e)]; exact h5, h6, h7.mono sm fun _ e => e⟩
  · rw [key j _ e1 (by intro e; cases e)] at e3
    rw [key k _ e2 (by intro e; cases e)] at e4
    exact rE.inj j k u w b e1 e2 e3 e4
theorem clear_ok (h : clear env vs = true) : ∀ i, i ∈ vs → ∀ s, env[i]? = some s → s = .non := fun i hi s e => by
  unfold clear at h
  have := (List.all_eq_true.mp h) i hi
  rw [e] at this
  cases s with
  | non => rfl
  | _ => cases this
/-- the heap grows by a thing that is new -/
theorem Post.grow (rE : RepEnv K Z env σ H) (sm : Same H H1) : Post K Z env σ H Z env σ H1 := by
  have s1 : Same (hid Z env σ H) (hid Z env σ H1) := fun q o e => by
    obtain ⟨h1, h2, h3⟩ := hid_some.mp e
    exact hid_some.mpr ⟨h1, h2, sm _ _ h3⟩
  refine ⟨⟨rE.len, fun i t e => ?_, fun i o e => ?_, rE.inj, fun p hz => ?_⟩, fun p o e _ => sm p o e, fun p o e => ⟨o, sm p o e⟩, fun _ e => .inl e, fun _ e => e, fun _ e => .inl e⟩
  · obtain ⟨x, h1, h2⟩ := rE.v i t e; exact ⟨x, h1, h2.mono s1⟩
  · obtain ⟨a, h1, h2, h3⟩ := rE.own i o e; exact ⟨a, h1, h2, h3.mono s1 fun u e => sm a u e⟩
  · obtain ⟨o, e⟩ := rE.zd p hz; exact ⟨o, sm p o e⟩
/-- a new thing, hidden -/
theorem Post.hide {D : Addr} {u : HO} (rE : RepEnv K Z env σ H) (hD : H D = Option.none) : Post K Z env σ H (fun p => Z p ∨ p = D) env σ (upd H D u) := by
  have sm : Same H (upd H D u) := fun b o e => by rw [upd_ne (ne_of_none e hD)]; exact e
  have nso : ¬ SO env σ D := fun so => by obtain ⟨o', e⟩ := rE.so_dom so; rw [hD] at e; cases e
  have s1 : Same (hid Z env σ H) (hid (fun p => Z p ∨ p = D) env σ (upd H D u)) := fun p o e => by
    obtain ⟨h1, h2, h3⟩ := hid_some.mp e
    refine hid_some.mpr ⟨fun z => z.elim h1 fun z => ?_, h2, sm _ _ h3⟩
    subst z; rw [hD] at h3; cases h3
  refine ⟨⟨rE.len, fun i t e => ?_, fun i o e => ?_, rE.inj, fun p hz => ?_⟩, fun p o e _ => sm p o e, fun p o e => ⟨o, sm p o e⟩, fun _ e => .inl e, fun _ e => .inl e, fun p e => ?_⟩
  · obtain ⟨x, h1, h2⟩ := rE.v i t e; exact ⟨x, h1, h2.mono s1⟩
  · obtain ⟨b, h1, h2, h3⟩ := rE.own i o e
    refine ⟨b, h1, fun z => z.elim h2 fun z => ?_, h3.mono s1 fun u e => sm b u e⟩
    subst z; exact nso ⟨i, o, e, h1⟩
  · rcases hz with hz | rfl
    · obtain ⟨o, e⟩ := rE.zd p hz; exact ⟨o, sm p o e⟩
    · exact ⟨_, upd_same⟩
  · rcases e with e | rfl
    · exact .inl e
    · exact .inr hD
/-- a hidden thing is written -/
theorem hid_updZ {D : Addr} {u : HO} (hz : Z D) : hid Z env σ (upd H D u) = hid Z env σ H := by
  funext p
  unfold hid
  by_cases e : p = D
  · subst e; rw [if_pos (.inl hz), if_pos (.inl hz)]
  · rw [upd_ne e]
theorem RepEnv.updZ {D : Addr} {u : HO} (rE : RepEnv K Z env σ H) (hz : Z D) : RepEnv K Z env σ (upd H D u) := by
  refine ⟨rE.len, fun i t e => ?_, fun i o e => ?_, rE.inj, fun p hp => ?_⟩
  · rw [hid_updZ hz]; exact rE.v i t e
  · obtain ⟨a, h1, h2, h3⟩ := rE.own i o e
    refine ⟨a, h1, h2, ?_⟩
    rw [hid_updZ hz]
    exact h3.mono (fun _ _ e => e) fun v e => by rw [upd_ne (fun z => h2 (by rw [z]; exact hz))]; exact e
  · by_cases e : p = D
    · subst e; exact ⟨_, upd_same⟩
    · rw [upd_ne e]; exact rE.zd p hp
theorem Post.updZ {env' : Sls} {σ' : St} {H' : Hp} {D : Addr} {u : HO} (p : Post K Z env σ H Z1 env' σ' H') (hz : Z1 D) (hD : H D = Option.none) : Post K Z env σ H Z1 env' σ' (upd H' D u) :=
  ⟨p.rep.updZ hz, fun q o e n => by rw [upd_ne (ne_of_none e hD)]; exact p.fr q o e n, fun q o e => by rw [upd_ne (ne_of_none e hD)]; exact p.dom q o e, p.so, p.zs, p.zn⟩
end
/-- a target that binds no other slots -/
def Wp (t : TG) (vs : List Nat) : Prop := ∀ x σ H Q, t x σ H Q → t x σ H fun σ' H' => Q σ' H' ∧ wipe σ' vs = wipe σ vs
def Wps (t : TGs) (vs : List Nat) : Prop := ∀ x σ H Q, t x σ H Q → t x σ H fun σ' H' => Q σ' H' ∧ wipe σ' vs = wipe σ vs
theorem wipe_set {σ : St} {i : Nat} {x : Option V} : ∀ {vs : List Nat}, i ∈ vs → wipe (σ.set i x) vs = wipe σ vs
  | v :: vs, h => by
    unfold wipe
    by_cases q : i ∈ vs
    · rw [wipe_set q]
    · have e : i = v := by
        rcases List.mem_cons.mp h with z | z
        · exact z
        · exact (q z).elim
      subst e
      apply List.ext_getElem?
      intro j
      by_cases ej : i = j
      · subst ej
        rw [List.getElem?_set, List.getElem?_set, wipe_length, wipe_length, List.length_set, if_pos rfl, if_pos rfl]
      · rw [List.getElem?_set_ne ej, List.getElem?_set_ne ej]
        by_cases q2 : j ∈ vs
        · have e1 : ∀ (σ : St) (vs : List Nat), j ∈ vs → (wipe σ vs)[j]? = if j < σ.length then some none else none := by
            intro σ vs
            induction vs with
            | nil => intro h; cases h
            | cons v vs ih =>
              intro h
              unfold wipe
              rw [List.getElem?_set, wipe_length]
              by_cases z : v = j
              · simp [z]
              · rw [if_neg z]
                exact ih ((List.mem_cons.mp h).resolve_left fun y => z y.symm)
          rw [e1 _ _ q2, e1 _ _ q2, List.length_set]
        · rw [wipe_out q2, wipe_out q2, List.getElem?_set_ne ej]
theorem wp_name {i : Nat} {vs : List Nat} (h : i ∈ vs) : Wp (gName i) vs := fun x σ H Q q => ⟨q, wipe_set h⟩
theorem wps_nil {vs : List Nat} : Wps gNil vs := fun x σ H Q q => ⟨q.1, q.2, rfl⟩
theorem wps_cons {t : TG} {u : TGs} {vs : List Nat} (hm : ∀ x σ H Q Q', (∀ σ H, Q σ H → Q' σ H) → t x σ H Q → t x σ H Q') (h1 : Wp t vs) (h2 : Wps u vs) : Wps (gCons t u) vs := fun x σ H Q ⟨v, r, e, q⟩ =>
  ⟨v, r, e, hm _ _ _ _ _ (fun σ1 H1 ⟨a, b⟩ => by
    have := h2 r σ1 H1 _ a
    rw [b] at this
    exact this) (h1 _ _ _ _ q)⟩
theorem wp_tup {K : KB} {n : Nat} {t : TGs} {vs : List Nat} (h : Wps t vs) : Wp (gTup K n t) vs := fun x σ H Q ⟨a, xs, e, s, l, q⟩ => ⟨a, xs, e, s, l, h _ _ _ _ q⟩
theorem gm_name {i : Nat} : ∀ (x : V) (σ : St) (H : Hp) (Q Q' : St → Hp → Prop), (∀ σ H, Q σ H → Q' σ H) → gName i x σ H Q → gName i x σ H Q' := fun x σ H Q Q' h q => h _ _ q

section
variable {g : Gk} {W : WB} {σ : St} {Z : SetA} {env : Sls} {H : Hp} {X : Cx} {D : Ends}
theorem nox_some {α β : Type} {m : M α} {k : α → M β} {e : Sls} {P : R β → Prop} (hno : ¬ P .no) (h : P ((nox m).bind k e)) : ∃ a e1, m e = .ok a e1 ∧ P (k a e1) := by
  unfold M.bind nox at h
  cases q : m e with
  | er y e => rw [q] at h; exact (hno h).elim
  | no => rw [q] at h; exact (hno h).elim
  | ok a e1 => rw [q] at h; exact ⟨a, e1, rfl, h⟩
/-- a comprehension as the rule reads it -/
theorem rd_lc {S : M (List T)} {b : T → M Unit} {C : M Bool} {E : M Vw} {vs : List Nat} {t : TG} {tg : Expr} {Q : VK} {X' : Cx} (hK : X'.K = X.K) (hG : X'.g = X.g) (hg : XG X' tg b t) (hw : Wp t vs) (hm : ∀ x σ H Q Q', (∀ σ H, Q σ H → Q' σ H) → t x σ H Q → t x σ H Q')
    (h : tE X.g W (mLc S b C E vs) σ H Q) : tLc (tI X.g W S) t (tT X.g (WF W) C) (tE X.g (WF W) E) vs σ H Q := by
  have hok := @XG.ok X' tg b t hg
  rw [hK, hG] at hok
  obtain ⟨Z, env0, rE, h⟩ := h
  refine ⟨Z, env0, rE, (Out.bind0 rE h).mono fun J H1 ⟨Z1, env1, ts, p1, k1, ⟨inv, sr, hinv⟩, c1⟩ => ?_⟩
  intro D hD
  split at c1
  case isFalse => exact c1.elim
  rename_i hcl
  have hc := clear_ok hcl
  -- the new list, hidden; the comprehension's own slots forgotten
  have pD := Post.hide (u := .lst []) p1.rep hD
  have hlen := rE.len
  have hswap : ∀ {Z' : SetA} {e : Sls} {s : St} {H' : Hp}, RepEnv (kb X.g W) Z' e s H' → (∀ i, i ∈ vs → ∀ x, e[i]? = some x → x = Sl.non) → wipe s vs = wipe σ vs → s.length = σ.length → Post (kb X.g W) Z' e s H' Z' e (wipe σ vs) H' := fun r q w l =>
    swap_post r q (fun i hi => by rw [← w, wipe_out hi]) (by rw [wipe_length, l])
  have p2 := (p1.trans pD).trans (hswap pD.rep hc rfl rfl)
  have hD0 : H D = none := p1.none hD
  refine ⟨fun i m H' => m = ts.length - i ∧ i ≤ ts.length ∧ ∃ env accT accV, Post (kb X.g W) Z env0 σ H (fun p => Z1 p ∨ p = D) env (wipe σ vs) H' ∧ (∀ i, i ∈ vs → ∀ x, env[i]? = some x → x = Sl.non) ∧ (∀ i, i ∉ vs → Full env0 i → Full env i) ∧
      H' D = some (.lst accV) ∧ RpL X.K (hid (fun p => Z1 p ∨ p = D) env (wipe σ vs) H') accV accT ∧ inv (hid (fun p => Z1 p ∨ p = D) env (wipe σ vs) H') H' ∧ Out X.g W (LE (kb X.g W) σ) σ Q Z env0 H (lcL b C E vs accT (ts.drop i) env),
    ⟨ts.length, by simp, Nat.zero_le _, env1, [], [], p2, hc, fun i _ f => k1 i f, upd_same, .nil, ?_, by simpa using c1⟩, ?_⟩
  · exact sr.mono hinv (fun q o e => (hswap pD.rep hc rfl rfl).same _ _ (pD.same _ _ e)) hid_le
  rintro i m H' ⟨rfl, hi, env, accT, accV, p, hcl', hk, hDl, hacc, hv, ho⟩
  by_cases hlt : i < ts.length
  · refine .inr ⟨sr.go hid_le hv hlt, fun H'' => i + 1 ≤ ts.length ∧ ∃ env accT accV, Post (kb X.g W) Z env0 σ H (fun p => Z1 p ∨ p = D) env (wipe σ vs) H'' ∧ (∀ i, i ∈ vs → ∀ x, env[i]? = some x → x = Sl.non) ∧ (∀ i, i ∉ vs → Full env0 i → Full env i) ∧
      H'' D = some (.lst accV) ∧ RpL X.K (hid (fun p => Z1 p ∨ p = D) env (wipe σ vs) H'') accV accT ∧ inv (hid (fun p => Z1 p ∨ p = D) env (wipe σ vs) H'') H'' ∧ Out X.g W (LE (kb X.g W) σ) σ Q Z env0 H (lcL b C E vs accT (ts.drop (i + 1)) env),
      fun H'' hN => ⟨ts.length - (i + 1), by omega, rfl, hN⟩, fun x H'' hy => ?_⟩
    obtain ⟨d, hd, sm, hx⟩ := sr.yld hid_le hv hy hlt
    have ed : ts.drop i = d :: ts.drop (i + 1) := by
      rw [List.drop_eq_getElem_cons hlt]
      have := List.getElem?_eq_getElem hlt
      rw [hd] at this
      injection this with this
      rw [this]
    rw [ed] at ho
    unfold lcL at ho
    obtain ⟨u, e1, q1, ho⟩ := nox_some (P := Out X.g W (LE (kb X.g W) σ) σ Q Z env0 H) (fun z => z) ho
    cases u
    obtain ⟨c, e2, q2, ho⟩ := nox_some (P := Out X.g W (LE (kb X.g W) σ) σ Q Z env0 H) (fun z => z) ho
    have pg := Post.grow p.rep sm
    have hxd : Rp X.K (hid (fun p => Z1 p ∨ p = D) env (wipe σ vs) H'') x d := hx _ pg.same fun q o z1 z2 => by
      refine hid_some.mpr ⟨fun hz => ?_, fun so => ?_, z2⟩
      · obtain ⟨o', e⟩ := p.rep.zd q hz
        rw [z1] at e; cases e
      · obtain ⟨o', e⟩ := p.rep.so_dom so
        rw [z1] at e; cases e
    have hz : ∀ {s : St}, wipe s vs = wipe σ vs → s.length = σ.length := fun {s} w => by
      have := congrArg List.length w
      rwa [wipe_length, wipe_length] at this
    have wW : wipe (wipe σ vs) vs = wipe σ vs := by
      apply List.ext_getElem?
      intro j
      by_cases q : j ∈ vs
      · have e1 : ∀ (σ : St) (vs : List Nat), j ∈ vs → (wipe σ vs)[j]? = if j < σ.length then some none else none := by
          intro σ vs
          induction vs with
          | nil => intro h; cases h
          | cons v vs ih =>
            intro h
            unfold wipe
            rw [List.getElem?_set, wipe_length]
            by_cases z : v = j
            · simp [z]
            · rw [if_neg z]
              exact ih ((List.mem_cons.mp h).resolve_left fun y => z y.symm)
        rw [e1 _ _ q, e1 _ _ q, wipe_length]
      · rw [wipe_out q]
    refine hm _ _ _ _ _ ?_ (hw _ _ _ _ (hok pg.rep hxd q1 (Q := fun s h => h = H'' ∧ Post (kb X.g W) (fun p => Z1 p ∨ p = D) env (wipe σ vs) H'' (fun p => Z1 p ∨ p = D) e1 s H'') fun s ps => ⟨rfl, ps⟩))
    rintro s2 H2 ⟨⟨rfl, ps⟩, ws⟩
    rw [wW] at ws
    refine ⟨ws, (fun p => Z1 p ∨ p = D), e1, ps.rep, ?_⟩
    rw [q2]
    intro bb H3 Z3 p3 k3 l3
    have ec : c = bb := l3
    subst ec
    have t3 := ((pg.trans ps).trans p3).lessZ
    -- the turn's end: what was bound is forgotten
    have fin : ∀ {e : Sls} {H5 : Hp} {accT' : List T} {accV' : List V}, Post (kb X.g W) Z env0 σ H (fun p => Z1 p ∨ p = D) e s2 H5 → Same (hid (fun p => Z1 p ∨ p = D) env (wipe σ vs) H') (hid (fun p => Z1 p ∨ p = D) e s2 H5) → Kp e1 e → H5 D = some (.lst accV') → RpL X.K (hid (fun p => Z1 p ∨ p = D) e s2 H5) accV' accT' →
        Out X.g W (LE (kb X.g W) σ) σ Q Z env0 H (lcL b C E vs accT' (ts.drop (i + 1)) (wipeE e vs)) → i + 1 ≤ ts.length ∧ ∃ env accT accV, Post (kb X.g W) Z env0 σ H (fun p => Z1 p ∨ p = D) env (wipe σ vs) H5 ∧ (∀ i, i ∈ vs → ∀ x, env[i]? = some x → x = Sl.non) ∧ (∀ i, i ∉ vs → Full env0 i → Full env i) ∧
      H5 D = some (.lst accV) ∧ RpL X.K (hid (fun p => Z1 p ∨ p = D) env (wipe σ vs) H5) accV accT ∧ inv (hid (fun p => Z1 p ∨ p = D) env (wipe σ vs) H5) H5 ∧ Out X.g W (LE (kb X.g W) σ) σ Q Z env0 H (lcL b C E vs accT (ts.drop (i + 1)) env) := by
      intro e H5 accT' accV' pe se ke hDe hae hoe
      have pw := wipe_post (vs := vs) pe.rep
      rw [ws] at pw
      refine ⟨hlt, wipeE e vs, accT', accV', pe.trans pw, fun i hi x e => wipeE_in hi e, fun j hj f => ?_, hDe, hae.mono pw.same, sr.mono hv (fun q o e => pw.same _ _ (se _ _ e)) hid_le, hoe⟩
      unfold Full
      rw [wipeE_out hj]
      exact ke j (hg.kp q1 j (hk j hj f))
    cases c with
    | false =>
      rw [if_neg Bool.false_ne_true] at ho
      rw [if_neg Bool.false_ne_true]
      have hDl3 : H3 D = some (.lst accV) := t3.fr D _ hDl fun so => p.rep.z_so (.inr rfl) so
      exact fin (p.trans t3) t3.same k3 hDl3 (hacc.mono t3.same) ho
    | true =>
      rw [if_pos rfl] at ho
      rw [if_pos rfl]
      obtain ⟨r, e3, q3, ho⟩ := nox_some (P := Out X.g W (LE (kb X.g W) σ) σ Q Z env0 H) (fun z => z) ho
      obtain ⟨u, e4, q4, ho⟩ := nox_some (P := Out X.g W (LE (kb X.g W) σ) σ Q Z env0 H) (fun z => z) ho
      split at ho
      case isFalse => exact ho.elim
      rename_i hsz
      refine ⟨(fun p => Z1 p ∨ p = D), e2, t3.rep, ?_⟩
      rw [q3]
      intro y H4 Z4 p4 k4 l4
      obtain ⟨p5, k5, s5⟩ := toT_ok p4.rep l4 q4
      have t5 := (t3.trans (p4.trans p5)).lessZ
      have hDl4 : H4 D = some (.lst accV) := t5.fr D _ hDl fun so => p.rep.z_so (.inr rfl) so
      have zD : ∀ q, (Z1 q ∨ q = D) → ∃ o, H3 q = some o := fun q hq => t3.rep.zd q hq
      have hy4 : Rp X.K (hid (fun p => Z1 p ∨ p = D) e4 s2 H4) y u := s5 _ p4.zs zD
      have hac4 : RpL X.K (hid (fun p => Z1 p ∨ p = D) e4 s2 H4) accV accT := hacc.mono t5.same
      refine ⟨accV, hDl4, by rw [hacc.length]; exact hsz, ?_⟩
      have hu := hid_updZ (Z := fun p => Z1 p ∨ p = D) (env := e4) (σ := s2) (H := H4) (D := D) (u := .lst (accV ++ [y])) (.inr rfl)
      exact fin ((p.trans t5).updZ (.inr rfl) hD0) (by rw [hu]; exact t5.same) (k3.trans (k4.trans k5)) upd_same (by rw [hu]; exact hac4.append (.cons hy4 .nil)) ho
  · refine .inl ⟨sr.stop hid_le hv (by omega), ?_⟩
    have : ts.drop i = [] := List.drop_eq_nil_of_le (by omega)
    rw [this] at ho
    unfold lcL at ho
    have pb := p.trans (swap_post (vs := vs) (σ1 := σ) p.rep hcl' (fun i hi => by rw [wipe_out hi]) (by rw [wipe_length]))
    refine ho (.ref D) H' (fun p => Z1 p ∨ p = D) pb (fun j f => ?_) ⟨D, rfl, hD0, .inr rfl, accV, hDl, hacc.mono (swap_post (vs := vs) (σ1 := σ) p.rep hcl' (fun i hi => by rw [wipe_out hi]) (by rw [wipe_length])).same⟩
    by_cases q : j ∈ vs
    · have : Full env0 j → Full env1 j := k1 j
      rcases k1 j f with ⟨o, e⟩ | ⟨t, e⟩
      · cases hc j q _ e
      · cases hc j q _ e
    · exact hk j q f

/-- [elt for tg in iter if ..] -/
theorem xlc {elt tg iter : Expr} {ifs : List Expr} {scope : Scope} {own : List (PySem.Str × Nat)} {pos : Pos} {S : M (List T)} {b : T → M Unit} {t : TG} {C : M Bool} {E : M Vw} (hc : X.calm = true) (hN : X.N.Nodup) (hi : XI X W tg iter S) (ok : BlkOk X.N X.env.scope scope own)
    (hg : ∀ (s : Shared) (H : Hp) (Cc : Addr) (cl : List (PySem.Str × Addr)) (fp : List Addr), XG (X.blk s H scope (compEnvC scope cl Cc X.env) fp) tg b t) (ht : ∀ (s : Shared) (H : Hp) (Cc : Addr) (cl : List (PySem.Str × Addr)) (fp : List Addr), PTs (X.blk s H scope (compEnvC scope cl Cc X.env) fp) ifs (tT X.g (WF W) C))
    (he : ∀ (s : Shared) (H : Hp) (Cc : Addr) (cl : List (PySem.Str × Addr)) (fp : List Addr), XE (X.blk s H scope (compEnvC scope cl Cc X.env) fp) (WF W) elt E) (hw : Wp t (own.map (·.2))) (hm : ∀ x σ H Q Q', (∀ σ H, Q σ H → Q' σ H) → t x σ H Q → t x σ H Q')
    (hs : ∀ x, foldedSetIterable iter X.env x = pure x := by intro _; rfl) : XE X W (.ListComp elt [⟨tg, iter, ifs, 0⟩] scope pos) (mLc S b C E (own.map (·.2))) :=
  (pe_lc hc hN hi ok (fun s H Cc cl fp => (hg s H Cc cl fp).pg) ht (fun s H Cc cl fp => he s H Cc cl fp) hs).weak fun σ H Q h => rd_lc (X' := X.blk X.s_0 X.H_0 scope (compEnvC scope [] 0 X.env) []) rfl rfl (hg X.s_0 X.H_0 0 [] []) hw hm h

/-- name = [..] -/
theorem xsetlc {W : WB} {i : Nat} {y : PySem.Str} {py : Pos} {elt tg iter : Expr} {ifs : List Expr} {scope : Scope} {own : List (PySem.Str × Nat)} {pos spos : Pos} {S : M (List T)} {b : T → M Unit} {t : TG} {C : M Bool} {E : M Vw} (hc : X.calm = true) (hN : X.N.Nodup)
    (hy : X.N[i]? = some y) (hyl : X.env.scope.names.lookup y = some .local) (hsw : swapsWith (.ListComp elt [⟨tg, iter, ifs, 0⟩] scope pos) (some (.Name y py)) spos.line X.env = pure true) (hi : XI X W tg iter S) (ok : BlkOk X.N X.env.scope scope own)
    (hg : ∀ (s : Shared) (H : Hp) (Cc : Addr) (cl : List (PySem.Str × Addr)) (fp : List Addr), XG (X.blk s H scope (compEnvC scope cl Cc X.env) fp) tg b t) (ht : ∀ (s : Shared) (H : Hp) (Cc : Addr) (cl : List (PySem.Str × Addr)) (fp : List Addr), PTs (X.blk s H scope (compEnvC scope cl Cc X.env) fp) ifs (tT X.g (WF W) C))
    (he : ∀ (s : Shared) (H : Hp) (Cc : Addr) (cl : List (PySem.Str × Addr)) (fp : List Addr), XE (X.blk s H scope (compEnvC scope cl Cc X.env) fp) (WF W) elt E) (hw : Wp t (own.map (·.2))) (hm : ∀ x σ H Q Q', (∀ σ H, Q σ H → Q' σ H) → t x σ H Q → t x σ H Q')
    (hs : ∀ x, foldedSetIterable iter X.env x = pure x := by intro _; rfl) : XS X W (.Assign [.Name y py] (.ListComp elt [⟨tg, iter, ifs, 0⟩] scope pos) spos) (mSet i (mLc S b C E (own.map (·.2)))) :=
  (ps_setLc hc hN hy hyl hsw hi ok (fun s H Cc cl fp => (hg s H Cc cl fp).pg) ht (fun s H Cc cl fp => he s H Cc cl fp) hs).weak fun D σ H h =>
    rd_lc (W := W) (X' := X.blk X.s_0 X.H_0 scope (compEnvC scope [] 0 X.env) []) rfl rfl (hg X.s_0 X.H_0 0 [] []) hw hm (rd_set (g := X.g) h)
/-- the tests of a comprehension: none, one -/
theorem xcyes : PTs X [] (tT X.g W cYes) := ⟨fun pins s σ H Q I ⟨Z, env, rE, h⟩ => pts_nil.run pins s σ H Q I (h true H Z rE.post Kp.refl rfl)⟩
theorem xcone {c : Expr} {C : M Bool} (h : XT X W c C) : PTs X [c] (tT X.g W C) := pts_one h
end
end Ev
end P_Ev7

section P_Ev8
set_option Elab.async false
set_option linter.all false
set_option maxRecDepth 100000
/-! Ev8: objects that are changed, several targets at once, dict displays. -/
namespace Ev
open PySem L2 PySem.Spec
open PyProof.Rows hiding St
set_option autoImplicit false

section
variable {K : KB} {Z Z1 : SetA} {env env1 : Sls} {σ : St} {H H1 : Hp} {i : Nat} {o o' : Ob} {a : Addr}
/-- an owned object is written -/
theorem own_upd {u : HO} (rE : RepEnv K Z env σ H) (h : env[i]? = some (.own o)) (hs : σ[i]? = some (some (.ref a))) (hr : RepOb K (hid Z env σ H) (upd H a u) a o') :
    Post K Z env σ H Z (env.set i (.own o')) σ (upd H a u) ∧ Kp env (env.set i (.own o')) ∧ hid Z (env.set i (.own o')) σ (upd H a u) = hid Z env σ H := by
  have hi : i < env.length := (List.getElem?_eq_some_iff.mp h).1
  have soa : SO env σ a := ⟨i, o, h, hs⟩
  have sub : ∀ p, SO (env.set i (.own o')) σ p ↔ SO env σ p := fun p => by
    constructor
    · rintro ⟨j, w, h1, h2⟩
      by_cases e : i = j
      · subst e; exact ⟨i, o, h, h2⟩
      · rw [List.getElem?_set_ne e] at h1; exact ⟨j, w, h1, h2⟩
    · rintro ⟨j, w, h1, h2⟩
      by_cases e : i = j
      · subst e; exact ⟨i, o', List.getElem?_set_self hi, h2⟩
      · exact ⟨j, w, by rw [List.getElem?_set_ne e]; exact h1, h2⟩
  have hh : hid Z (env.set i (.own o')) σ (upd H a u) = hid Z env σ H := by
    funext p
    unfold hid
    by_cases e : p = a
    · subst e; rw [if_pos (.inr ((sub p).mpr soa)), if_pos (.inr soa)]
    · rw [upd_ne e]
      by_cases q : Z p ∨ SO env σ p
      · rw [if_pos (q.imp id (sub p).mpr), if_pos q]
      · rw [if_neg fun z => q (z.imp id (sub p).mp), if_neg q]
  have na : ¬ Z a := fun z => rE.z_so z soa
  refine ⟨⟨⟨by rw [List.length_set]; exact rE.len, fun j t e => ?_, fun j w e => ?_, fun j k w1 w2 b e1 e2 e3 e4 => ?_, fun p hp => ?_⟩, fun p w e n => ?_, fun p w e => ?_, fun p e => .inl ((sub p).mp e), fun _ e => e, fun _ e => .inl e⟩, fun j f => ?_, hh⟩
  · rw [hh]
    by_cases ej : i = j
    · subst ej; rw [List.getElem?_set_self hi] at e; cases e
    · rw [List.getElem?_set_ne ej] at e; exact rE.v j t e
  · rw [hh]
    by_cases ej : i = j
    · subst ej
      rw [List.getElem?_set_self hi] at e
      injection e with e; injection e with e; subst e
      exact ⟨a, hs, na, hr⟩
    · rw [List.getElem?_set_ne ej] at e
      obtain ⟨b, h1, h2, h3⟩ := rE.own j w e
      refine ⟨b, h1, h2, h3.mono (fun _ _ e => e) fun v ev => ?_⟩
      rw [upd_ne (fun z => ej (rE.inj i j o w a h e hs (by rw [← z]; exact h1)))]
      exact ev
  · have key : ∀ k w, (env.set i (.own o'))[k]? = some (Sl.own w) → ∃ w' : Ob, env[k]? = some (Sl.own w') := fun k w e => by
      by_cases ek : i = k
      · subst ek; exact ⟨o, h⟩
      · rw [List.getElem?_set_ne ek] at e; exact ⟨w, e⟩
    obtain ⟨w1', e1'⟩ := key j w1 e1
    obtain ⟨w2', e2'⟩ := key k w2 e2
    exact rE.inj j k w1' w2' b e1' e2' e3 e4
  · by_cases e : p = a
    · subst e; exact (na hp).elim
    · rw [upd_ne e]; exact rE.zd p hp
  · rw [upd_ne (fun z => n (by rw [z]; exact soa))]; exact e
  · by_cases q : p = a
    · subst q; exact ⟨u, upd_same⟩
    · exact ⟨w, by rw [upd_ne q]; exact e⟩
  · by_cases ej : i = j
    · subst ej; exact .inl ⟨o', List.getElem?_set_self hi⟩
    · unfold Full; rw [List.getElem?_set_ne ej]; exact f
end
/-- what becomes of an owned object, and what comes out -/
def modE (i : Nat) (f : Ob → Option (Ob × T)) : M Vw := fun e => match e[i]? with
  | some (.own o) => match f o with
    | some (o', t) => .ok (.v t) (e.set i (.own o'))
    | none => .no
  | _ => .no
def obT : Ob → String
  | .tg _ o => obT o
  | .lst _ => "list"
  | .dct _ => "dict"
/-- the slot owns an object of this type -/
def chk (i : Nat) (Ty : String) : M Unit := fun e => match e[i]? with
  | some (.own o) => if obT o = Ty then .ok () e else .no
  | _ => .no
theorem chk_some {β : Type} {i : Nat} {Ty : String} {k : Unit → M β} {env : Sls} {P : R β → Prop} (hno : ¬ P .no) (h : P ((chk i Ty).bind k env)) : ∃ o, env[i]? = some (.own o) ∧ obT o = Ty ∧ P (k () env) := by
  have e : (chk i Ty).bind k env = (chk i Ty env).bind k := rfl
  rw [e] at h
  unfold chk at h
  cases q : env[i]? with
  | none => rw [q] at h; exact (hno h).elim
  | some s =>
    rw [q] at h
    cases s with
    | own o =>
      simp only at h
      by_cases z : obT o = Ty
      · rw [if_pos z] at h; exact ⟨o, rfl, z, h⟩
      · rw [if_neg z] at h; exact (hno h).elim
    | _ => exact (hno h).elim
/-- beneath what was lent -/
def lift (f : Ob → Option (Ob × T)) : Ob → Option (Ob × T)
  | .tg j o => (lift f o).map fun w => (.tg j w.1, w.2)
  | o => f o
def liftO (f : Ob → Option Ob) : Ob → Option Ob
  | .tg j o => (liftO f o).map fun w => .tg j w
  | o => f o
def liftG {α : Type} (f : Ob → Option α) : Ob → Option α
  | .tg _ o => liftG f o
  | o => f o
/-- x.m(..), x a slot that owns an object -/
def mMeth (i : Nat) (Ty : String) (f : List T → Ob → Option (Ob × T)) (A : M (List Vw)) : M Vw := (chk i Ty).bind fun _ => A.bind fun rs => (toTs rs).bind fun ts => modE i (lift (f ts))
/-- a method's rule by the objects -/
def MeS (K : KB) (r : V → List V → Hp → VK → Prop) (f : List T → Ob → Option (Ob × T)) : Prop :=
  ∀ {G H : Hp} {a : Addr} {o o' : Ob} {xs : List V} {ts : List T} {t : T} {Q : VK}, RepOb K G H a o → RpL K G xs ts → f ts o = some (o', t) → (∀ u z, RepOb K G (upd H a u) a o' → Rp K G z t → Q z (upd H a u)) → r (.ref a) xs H Q
theorem RepOb.ty {K : KB} {G H : Hp} {a : Addr} {Ty : String} : ∀ {o : Ob}, RepOb K G H a o → obT o = Ty → tyV K Ty (.ref a) H
  | .lst ts, ⟨vs, h1, _⟩, e => .inl ⟨e.symm, _, .of h1⟩
  | .dct kvs, ⟨vs, h1, _⟩, e => .inr (.inr (.inl ⟨e.symm, .inl ⟨_, h1⟩⟩))
  | .tg j o, ⟨_, h⟩, e => RepOb.ty (o := o) h e
/-- .. beneath what was lent -/
theorem MeS.lift {K : KB} {r : V → List V → Hp → VK → Prop} {f : List T → Ob → Option (Ob × T)} (hs : MeS K r f) : ∀ {o : Ob} {G H : Hp} {a : Addr} {o' : Ob} {xs : List V} {ts : List T} {t : T} {Q : VK}, RepOb K G H a o → RpL K G xs ts → lift (f ts) o = some (o', t) →
    (∀ u z, RepOb K G (upd H a u) a o' → Rp K G z t → Q z (upd H a u)) → r (.ref a) xs H Q
  | .lst us, _, _, _, _, _, _, _, _, h, hx, e, k => hs h hx e k
  | .dct us, _, _, _, _, _, _, _, _, h, hx, e, k => hs h hx e k
  | .tg j o, _, _, _, _, _, ts, _, _, ⟨ha, h⟩, hx, e, k => by
    simp only [Ev.lift] at e
    cases q : Ev.lift (f ts) o with
    | none => rw [q] at e; cases e
    | some w =>
      rw [q] at e; cases e
      exact MeS.lift hs (o := o) h hx q fun u z h1 h2 => k u z ⟨ha, h1⟩ h2
section
variable {g : Gk} {W : WB} {σ : St} {Z : SetA} {env : Sls} {H : Hp} {X : Cx} {D : Ends}
/-- what stands behind a change of a slot's object -/
theorem rd_mod {Q : VK} {i : Nat} {f : Ob → Option (Ob × T)} {x : V} (rE : RepEnv (kb g W) Z env σ H) (hx : σ[i]? = some (some x)) (h : Out g W (LE (kb g W) σ) σ Q Z env H (modE i f env)) :
    ∃ a o o' t, x = .ref a ∧ RepOb (kb g W) (hid Z env σ H) H a o ∧ f o = some (o', t) ∧ ∀ u z, RepOb (kb g W) (hid Z env σ H) (upd H a u) a o' → Rp g.K (hid Z env σ H) z t → Q z (upd H a u) := by
  unfold modE at h
  cases e : env[i]? with
  | none => rw [e] at h; exact h.elim
  | some s =>
    rw [e] at h
    cases s with
    | own o =>
      simp only at h
      cases q : f o with
      | none => rw [q] at h; exact h.elim
      | some w =>
        obtain ⟨o', t⟩ := w
        rw [q] at h
        obtain ⟨a, h1, h2, h3⟩ := rE.own i o e
        rw [hx] at h1; injection h1 with h1; injection h1 with h1
        refine ⟨a, o, o', t, h1, h3, q, fun u z hr hz => ?_⟩
        obtain ⟨p, k, hh⟩ := own_upd rE e (by rw [hx, h1]) hr
        exact h z (upd H a u) Z p k (by show Rp _ _ _ _; rw [hh]; exact hz)
    | _ => exact h.elim
theorem rd_meth {i : Nat} {Ty : String} {r : V → List V → Hp → VK → Prop} {f : List T → Ob → Option (Ob × T)} (hs : MeS (kb g W) r f) {A : M (List Vw)} {Q : VK} (h : tE g W (mMeth i Ty f A) σ H Q) : tBM g.K Ty r (tE g W (mVar i)) (tA g W A) σ H Q := by
  obtain ⟨Z, env, rE, h⟩ := h
  obtain ⟨o, e, hty, h⟩ := chk_some (P := Out g W (LE (kb g W) σ) σ Q Z env H) (fun z => z) h
  obtain ⟨a, h1, h2, h3⟩ := rE.own i o e
  refine ⟨Z, env, rE, ?_⟩
  unfold mVar
  rw [e]
  intro x H1 Z1 p1 k1 l1
  have e1 : σ[i]? = some (some x) := l1.1
  rw [h1] at e1; injection e1 with e1; injection e1 with e1; subst e1
  obtain ⟨a', q1, q2, q3⟩ := p1.rep.own i o e
  rw [h1] at q1; injection q1 with q1; injection q1 with q1; injection q1 with q1; subst q1
  refine ⟨q3.ty hty, Z1, env, p1.rep, ?_⟩
  have h' : Out g W (LE (kb g W) σ) σ Q Z1 env H1 ((A env).bind fun rs => (toTs rs).bind fun ts => modE i (lift (f ts))) := Out.ct.step p1 k1 h
  refine (Out.bind0 p1.rep h').mono fun xs H2 ⟨Z2, env2, rs, p2, k2, l2, c2⟩ => ?_
  obtain ⟨ts, env3, r3, p3, k3, m3, c3⟩ := Out.ct.plain p1.rep p2 k2 l2 c2
  obtain ⟨b, w, w', t, hb, s1, s2, s3⟩ := rd_mod r3 h1 c3
  injection hb with hb; subst hb
  exact hs.lift s1 m3 s2 fun u z => s3 u z
theorem rd_meth0 {i : Nat} {Ty : String} {r : V → List V → Hp → VK → Prop} {f : List T → Ob → Option (Ob × T)} (hs : MeS (kb g W) r f) {Q : VK} (h : tE g W (mMeth i Ty f mNil) σ H Q) : tBM0 g.K Ty r (tE g W (mVar i)) σ H Q := by
  obtain ⟨Z, env, rE, h⟩ := h
  obtain ⟨o, e, hty, h⟩ := chk_some (P := Out g W (LE (kb g W) σ) σ Q Z env H) (fun z => z) h
  obtain ⟨a, h1, h2, h3⟩ := rE.own i o e
  refine ⟨Z, env, rE, ?_⟩
  unfold mVar
  rw [e]
  intro x H1 Z1 p1 k1 l1
  have e1 : σ[i]? = some (some x) := l1.1
  rw [h1] at e1; injection e1 with e1; injection e1 with e1; subst e1
  obtain ⟨a', q1, q2, q3⟩ := p1.rep.own i o e
  rw [h1] at q1; injection q1 with q1; injection q1 with q1; injection q1 with q1; subst q1
  have h' : Out g W (LE (kb g W) σ) σ Q Z1 env H1 (modE i (lift (f [])) env) := Out.ct.step p1 k1 h
  obtain ⟨b, w, w', t, hb, s1, s2, s3⟩ := rd_mod p1.rep h1 h'
  injection hb with hb; subst hb
  exact ⟨q3.ty hty, hs.lift s1 .nil s2 fun u z => s3 u z⟩
section
variable {o e : Expr} {es : List Expr} {A : M (List Vw)} {name : PySem.Str} {apos cpos : Pos} {Ty id : String} {r : V → List V → Hp → VK → Prop} {i : Nat} {f : List T → Ob → Option (Ob × T)}
theorem xmeth {W : WB} (pa : PlainAttrs Ty) (slot : Slot Ty name id) (hty : typeOf (.builtin id) = pure (.type "method_descriptor")) (hm : MtR X id r) (hs : MeS (kb X.g W) r f) (ho : XE X W o (mVar i)) (ha : XA X W (e :: es) A)
    (hbase : attributeBase o name X.env (eval o X.env) = eval o X.env := by rfl)
    (hfew : ((backTo cpos (starEach (e :: es) X.env)).all (fun x => !x.1) && (backToKw cpos (keywordEach [] X.env)).all (fun x => x.1.isSome)
      && decide ((e :: es).length + ([] : List Keyword).length + (if ([] : List Keyword).isEmpty then 0 else 1) < 30)) = true := by rfl)
    (hline : (apos.endLine == cpos.line) = true := by rfl) (h1 : starEach (e :: es) X.env = (false, eval e X.env) :: starEach es X.env := by rfl) (hplain : (backTo cpos (starEach es X.env)).any (·.1) = false := by rfl) :
    XE X W (.Call (.Attribute o name apos) (e :: es) [] cpos) (mMeth i Ty f A) := (pe_bm pa slot hty hm ho ha hbase hfew hline h1 hplain).weak fun _ _ _ h => rd_meth (g := X.g) hs h
theorem xmeth0 {W : WB} (pa : PlainAttrs Ty) (slot : Slot Ty name id) (hty : typeOf (.builtin id) = pure (.type "method_descriptor")) (hm : MtR X id r) (hs : MeS (kb X.g W) r f) (ho : XE X W o (mVar i))
    (hbase : attributeBase o name X.env (eval o X.env) = eval o X.env := by rfl) (hline : (apos.endLine == cpos.line) = true := by rfl) : XE X W (.Call (.Attribute o name apos) [] [] cpos) (mMeth i Ty f mNil) :=
  (pe_bm0 pa slot hty hm ho hbase hline).weak fun _ _ _ h => rd_meth0 (g := X.g) hs h
end
def appF : List T → Ob → Option (Ob × T)
  | [t], .lst ts => if ts.length < sizeLine then some (.lst (ts ++ [t]), .none) else none
  | _, _ => none
theorem s_app {K : KB} : MeS K rAppend appF := by
  intro G H a o o' xs ts t Q ho hx e k
  unfold appF at e
  split at e
  · obtain ⟨vs, h1, h2⟩ := ho
    cases hx with
    | cons a1 r1 =>
      cases r1
      split at e
      · rename_i hz
        injection e with e; injection e with e1 e2; subst e1; subst e2
        exact ⟨_, _, _, rfl, rfl, h1, by rw [h2.length]; exact hz, k _ _ ⟨_, upd_same, h2.append (.cons a1 .nil)⟩ .non⟩
      · cases e
  · cases e
def popF : List T → Ob → Option (Ob × T)
  | [], .lst ts => (ts[ts.length - 1]?).map fun t => (.lst ts.dropLast, t)
  | _, _ => none
theorem RpL.dropLast {K : KB} {H : Hp} : ∀ {vs : List V} {ts : List T}, RpL K H vs ts → RpL K H vs.dropLast ts.dropLast
  | _, _, .nil => .nil
  | _, _, .cons _ .nil => .nil
  | _, _, .cons a (.cons b r) => .cons a (RpL.dropLast (.cons b r))
theorem s_pop {K : KB} : MeS K rPop popF := by
  intro G H a o o' xs ts t Q ho hx e k
  unfold popF at e
  split at e
  · cases hx
    obtain ⟨vs, h1, h2⟩ := ho
    rename_i us
    cases q : us[us.length - 1]? with
    | none => rw [q] at e; cases e
    | some u =>
      rw [q] at e; cases e
      obtain ⟨v, h3, h4⟩ := h2.get q
      exact ⟨_, _, v, rfl, rfl, h1, by rw [h2.length]; exact h3, k _ _ ⟨_, upd_same, h2.dropLast⟩ h4⟩
  · cases e

/-! ### stores -/
/-- x[k] = e, d[k] = e: value first, then the slot's object, then the key -/
def mStore (i : Nat) (Ty : String) (I A : M Vw) (f : T → T → Ob → Option Ob) : MS := A.bind fun r => (chk i Ty).bind fun _ => I.bind fun ri => (toT r).bind fun t => (lk ri).bind fun k => (modE i fun o => (liftO (f k t) o).map fun o' => (o', .none)).bind fun _ e => .ok .nx e
def setLF : T → T → Ob → Option Ob
  | .int k, t, .lst ts => (ixN ts.length k).map fun j => .lst (ts.set j t)
  | _, _, _ => none
def putDF (k t : T) : Ob → Option Ob
  | .dct kvs => match toKey k with
    | some kk => if kvs.length < sizeLine then some (.dct (putKT kvs kk t)) else none
    | none => none
  | _ => none
theorem _root_.Ev.Rp1.seen {K : KB} {G G' H : Hp} {v : V} {t : T} (h : Rp1 K G H v t) (e : Same G G') : Rp1 K G' H v t := by
  cases h with
  | non => exact .non
  | bl b => exact .bl b
  | int i => exact .int i
  | str x => exact .str x
  | lst a b => exact .lst a (b.mono e)
  | ro a b => exact .ro a (b.mono e)
  | tup a b => exact .tup (sqT_mono e a) (b.mono e)
  | dct a b => exact .dct a (b.mono e)
/-- a slot's object is looked at: where it stands -/
theorem rd_own {i : Nat} {o : Ob} {Q : VK} (rE : RepEnv (kb g W) Z env σ H) (e : env[i]? = some (.own o)) (h : ∀ a H1 Z1, Post (kb g W) Z env σ H Z1 env σ H1 → σ[i]? = some (some (.ref a)) → RepOb (kb g W) (hid Z1 env σ H1) H1 a o → Q (.ref a) H1) : tE g W (mVar i) σ H Q := by
  obtain ⟨a, h1, h2, h3⟩ := rE.own i o e
  refine ⟨Z, env, rE, ?_⟩
  unfold mVar
  rw [e]
  intro x H1 Z1 p1 k1 l1
  have e1 : σ[i]? = some (some x) := l1.1
  rw [h1] at e1; injection e1 with e1; injection e1 with e1; subst e1
  obtain ⟨a', q1, q2, q3⟩ := p1.rep.own i o e
  rw [h1] at q1; injection q1 with q1; injection q1 with q1; injection q1 with q1; subst q1
  exact h a H1 Z1 p1 h1 q3
/-- the pieces of a store -/
theorem rd_store {i : Nat} {Ty : String} {I A : M Vw} {f : T → T → Ob → Option Ob} {R : V → V → V → Hp → (Hp → Prop) → Prop}
    (hs : ∀ {G H : Hp} {a : Addr} {o o' : Ob} {x y : V} {k t : T} {Q : Hp → Prop}, Same G H → RepOb (kb g W) G H a o → Rp1 g.K G H y k → Rp g.K G x t → f k t o = some o' → (∀ u, RepOb (kb g W) G (upd H a u) a o' → Q (upd H a u)) → R (.ref a) y x H Q)
    (h : tS g W (mStore i Ty I A f) D σ H) : tE g W A σ H fun x H1 => tE g W (mVar i) σ H1 fun o H2 => tE g W I σ H2 fun y H3 => R o y x H3 fun H4 => D.nx σ H4 := by
  have hl : ∀ {o : Ob} {Z env} {H : Hp} {a : Addr} {o' : Ob} {x y : V} {k t : T} {Q : Hp → Prop}, RepOb (kb g W) (hid Z env σ H) H a o → Rp1 g.K (hid Z env σ H) H y k → Rp g.K (hid Z env σ H) x t → liftO (f k t) o = some o' → (∀ u, RepOb (kb g W) (hid Z env σ H) (upd H a u) a o' → Q (upd H a u)) → R (.ref a) y x H Q := by
    intro o
    induction o with
    | lst us => intro Z env H a o' x y k t Q h1 h2 h3 e q; exact hs hid_le h1 h2 h3 e q
    | dct us => intro Z env H a o' x y k t Q h1 h2 h3 e q; exact hs hid_le h1 h2 h3 e q
    | tg j o ih =>
      intro Z env H a o' x y k t Q h1 h2 h3 e q
      simp only [liftO] at e
      cases qe : liftO (f k t) o with
      | none => rw [qe] at e; cases e
      | some w => rw [qe] at e; cases e; exact ih h1.2 h2 h3 qe fun u hu => q u ⟨h1.1, hu⟩
  obtain ⟨Z, env, rE, h⟩ := h
  refine ⟨Z, env, rE, (FromS.ct.bind (C := FromS g W D σ Z env H) ⟨rE.post, h⟩).mono fun x H1 ⟨Z1, env1, r, p1, k1, l1, c1⟩ => ?_⟩
  obtain ⟨o, e, hty, c1⟩ := chk_some (P := FromS g W D σ Z env H Z1 env1 H1) (fun z => z.2) c1
  refine rd_own p1.rep e fun a H2 Z2 p2 ha hr => ⟨Z2, env1, p2.rep, (FromS.ct.bind (C := FromS g W D σ Z env H) (FromS.ct.step p2 Kp.refl c1)).mono fun y H3 ⟨Z3, env3, ri, p3, k3, l3, c3⟩ => ?_⟩
  obtain ⟨p3', c3⟩ := c3
  have l1' := (l1.step p1.rep p2 Kp.refl).step p2.rep p3 k3
  have h3 : OutS g W D σ Z env H ((toT r env3).bind fun t => (lk ri).bind fun k => (modE i fun o => (liftO (f k t) o).map fun o' => (o', T.none)).bind fun _ e => .ok .nx e) := c3
  cases q : toT r env3 with
  | er v e => exact (toT_er q).elim
  | no => rw [q] at h3; exact h3.elim
  | ok t env4 =>
    rw [q] at h3
    obtain ⟨p4, k4, s4⟩ := toT_ok p3.rep l1' q
    have p5 := (p3'.trans p4).lessZ
    have h4 : OutS g W D σ Z env H (((lk ri).bind fun k => (modE i fun o => (liftO (f k t) o).map fun o' => (o', T.none)).bind fun _ e => .ok .nx e) env4) := h3
    cases qk : look ri env4 with
    | none => rw [lk_none qk] at h4; exact h4.elim
    | some k =>
      rw [lk_some qk] at h4
      have hk := (l3.step p3.rep p4 k4).look1 p4.rep qk
      have hk' : Rp1 g.K (hid Z env4 σ H3) H3 y k := hk.seen (hid_lessZ p3'.zs)
      have hx' : Rp g.K (hid Z env4 σ H3) x t := s4 Z p3'.zs rE.zd
      have h5 : OutS g W D σ Z env H ((modE i (fun o => (liftO (f k t) o).map fun o' => (o', T.none)) env4).bind fun _ e => .ok .nx e) := h4
      unfold modE at h5
      cases qe : env4[i]? with
      | none => rw [qe] at h5; exact h5.elim
      | some s =>
        rw [qe] at h5
        cases s with
        | own o4 =>
          simp only at h5
          cases qf : liftO (f k t) o4 with
          | none => rw [qf] at h5; exact h5.elim
          | some o' =>
            rw [qf] at h5
            obtain ⟨a', w1, w2, w3⟩ := p5.rep.own i o4 qe
            rw [ha] at w1; injection w1 with w1; injection w1 with w1; injection w1 with w1; subst w1
            refine hl w3 hk' hx' qf fun u hu => ?_
            obtain ⟨p6, k6, _⟩ := own_upd p5.rep qe ha hu
            exact h5 σ _ Z (p5.trans p6)
        | _ => exact h5.elim
theorem s_setL {K : KB} {G H : Hp} {a : Addr} {o o' : Ob} {x y : V} {k t : T} {Q : Hp → Prop} (_ : Same G H) (h1 : RepOb K G H a o) (h2 : Rp1 K G H y k) (h3 : Rp K G x t) (e : setLF k t o = some o') (q : ∀ u, RepOb K G (upd H a u) a o' → Q (upd H a u)) : rSetL (.ref a) y x H Q := by
  cases h2 with
  | int i' =>
    cases o with
    | lst ts =>
      obtain ⟨vs, e1, e2⟩ := h1
      have e : (ixN ts.length i').map (fun j => Ob.lst (ts.set j t)) = some o' := e
      cases e3 : ixN ts.length i' with
      | none => rw [e3] at e; cases e
      | some j => rw [e3] at e; cases e; exact ⟨a, vs, i', j, rfl, rfl, e1, by rw [e2.length]; exact e3, q _ ⟨_, upd_same, RpL.set h3 j e2⟩⟩
    | dct kvs => cases e
    | tg j o => cases e
  | _ => cases o <;> cases e
theorem s_putD {K : KB} {G H : Hp} {a : Addr} {o o' : Ob} {x y : V} {k t : T} {Q : Hp → Prop} (_ : Same G H) (h1 : RepOb K G H a o) (h2 : Rp1 K G H y k) (h3 : Rp K G x t) (e : putDF k t o = some o') (q : ∀ u, RepOb K G (upd H a u) a o' → Q (upd H a u)) : ∃ a' H4, V.ref a = V.ref a' ∧ DPut H a' y x H4 ∧ Q H4 := by
  unfold putDF at e
  split at e
  · rename_i kvs
    split at e
    · rename_i kk hk
      split at e
      · rename_i hz
        injection e with e; subst e
        obtain ⟨vs, e1, e2⟩ := h1
        refine ⟨a, _, rfl, ?_, q _ ⟨_, upd_same, e2.put h3⟩⟩
        rw [toKey_rp h2 hk]
        exact DPut.k e1 (by rw [e2.length]; exact hz)
      · cases e
    · cases e
  · cases e
theorem xstl {W : WB} {i : Nat} {o ie e : Expr} {I A : M Vw} {pos pos' : Pos} (hg : PG X (.Subscript o ie pos') (gSub (tE X.g W (mVar i)) (tE X.g W I) rSetL)) (he : XE X W e A) (hs : swapsWithSole [.Subscript o ie pos'] e pos.line X.env = pure false := by rfl) (hw : swappedStores [.Subscript o ie pos'] e X.env = pure none := by rfl)
    (h1 : (assignEach [.Subscript o ie pos'] X.env).map (fun x => x.snd) = [assign (.Subscript o ie pos') X.env] := by rfl) : XS X W (.Assign [.Subscript o ie pos'] e pos) (mStore i "list" I A setLF) :=
  (ps_asg he hg hs hw h1).weak fun D σ H h => rd_store (g := X.g) (R := rSetL) s_setL h
theorem xdput {W : WB} {i : Nat} {o ie e : Expr} {I A : M Vw} {pos pos' : Pos} (hu : X.A.units + 1 < cLine) (ho : XE X W o (mVar i)) (hi : XE X W ie I) (he : XE X W e A) (hs : swapsWith e (some (.Subscript o ie pos')) pos.line X.env = pure false := by rfl) :
    XS X W (.Assign [.Subscript o ie pos'] e pos) (mStore i "dict" I A putDF) :=
  (ps_dput hu ho hi he hs).weak fun D σ H h => rd_store (g := X.g) (R := fun o y x H Q => ∃ a H4, o = .ref a ∧ DPut H a y x H4 ∧ Q H4) s_putD h

/-! ### d[k] op= e -/
def getD1 (k : T) : Ob → Option T
  | .dct kvs => match toKey k with
    | some kk => (kvs.find? fun kv => decide (kv.1 = kk)).map (·.2)
    | none => none
  | _ => none
/-- the slot's object, seen through a function -/
def getE (i : Nat) (f : Ob → Option T) : M T := fun e => match e[i]? with
  | some (.own o) => match f o with
    | some t => .ok t e
    | none => .no
  | _ => .no
theorem getE_some {β : Type} {i : Nat} {f : Ob → Option T} {k : T → M β} {env : Sls} {P : R β → Prop} (hno : ¬ P .no) (h : P ((getE i f).bind k env)) : ∃ o t, env[i]? = some (.own o) ∧ f o = some t ∧ P (k t env) := by
  have e : (getE i f).bind k env = (getE i f env).bind k := rfl
  rw [e] at h
  unfold getE at h
  cases q : env[i]? with
  | none => rw [q] at h; exact (hno h).elim
  | some s =>
    rw [q] at h
    cases s with
    | own o =>
      simp only at h
      cases z : f o with
      | none => rw [z] at h; exact (hno h).elim
      | some t => rw [z] at h; exact ⟨o, t, rfl, z, h⟩
    | _ => exact (hno h).elim
theorem lk_only {β : Type} {r : Vw} {k : T → M β} {env : Sls} {P : R β → Prop} (hno : ¬ P .no) (h : P ((lk r).bind k env)) : ∃ t, look r env = some t ∧ P (k t env) := by
  cases q : look r env with
  | none => rw [lk_none q] at h; exact (hno h).elim
  | some t => rw [lk_some q] at h; exact ⟨t, rfl, h⟩
def setO (i : Nat) (f : Ob → Option Ob) : MS := (modE i fun o => (liftO f o).map fun o' => (o', .none)).bind fun _ e => .ok .nx e
theorem find_kv {K : KB} {G : Hp} {k : Key} : ∀ {vs : List (Key × V)} {ts : List (Key × T)} {t : T}, KvR K G vs ts → (ts.find? fun kv => decide (kv.1 = k)).map (·.2) = some t → ∃ v, valV vs k = some v ∧ Rp K G v t
  | _, _, _, .nil, e => by cases e
  | _, _, t, .cons (k := k') (v := v) (d := d) h r, e => by
    by_cases q : k' = k
    · subst q
      simp at e; subst e
      exact ⟨v, valV_pos rfl, h⟩
    · rw [List.find?_cons_of_neg (by simpa using q)] at e
      obtain ⟨v', h1, h2⟩ := find_kv r e
      exact ⟨v', by rw [valV_neg q]; exact h1, h2⟩
/-- the old value, then e, then the new one -/
def mDaug (i : Nat) (I A : M Vw) (f : T → T → Option Vw) : MS := (chk i "dict").bind fun _ => I.bind fun ri => (lk ri).bind fun k => (getE i (liftG (getD1 k))).bind fun old => A.bind fun r => (lk r).bind fun t => (lk ri).bind fun k' => match f old t, decide (toKey k' = toKey k) with
    | some (.v u), true => setO i (putDF k u)
    | _, _ => fun _ => .no
theorem rd_daug {i : Nat} {I A : M Vw} {f : T → T → Option Vw} {rd : R2} (hs : OpS (kb g W) rd f) (h : tS g W (mDaug i I A f) D σ H) : sDAug (tE g W (mVar i)) (tE g W I) (tE g W A) rd D σ H := by
  obtain ⟨Z, env, rE, h⟩ := h
  obtain ⟨o, e, hty, h⟩ := chk_some (P := OutS g W D σ Z env H) (fun z => z) h
  refine rd_own rE e fun a H1 Z1 p1 ha hr => ⟨Z1, env, p1.rep, (FromS.ct.bind (C := FromS g W D σ Z env H) ⟨p1, h⟩).mono fun y H2 ⟨Z2, env2, ri, p2, k2, l2, c2⟩ => ?_⟩
  obtain ⟨kt, ek, c2⟩ := lk_only (P := FromS g W D σ Z env H Z2 env2 H2) (fun z => z.2) c2
  obtain ⟨o2, old, e2, eg, c2⟩ := getE_some (P := FromS g W D σ Z env H Z2 env2 H2) (fun z => z.2) c2
  obtain ⟨a2, w1, w2, w3⟩ := p2.rep.own i o2 e2
  rw [ha] at w1; injection w1 with w1; injection w1 with w1; injection w1 with w1; subst w1
  have hk := l2.look1 p2.rep ek
  -- what was lent lies beneath
  have hget : ∀ {o : Ob} {G : Hp} {H : Hp} {t : T}, RepOb (kb g W) G H a o → liftG (getD1 kt) o = some t → ∃ kk vs v, toKey kt = some kk ∧ H a = some (.dK vs) ∧ valV vs kk = some v ∧ Rp g.K G v t := by
    intro o
    induction o with
    | lst us => intro G H t _ e; cases e
    | dct kvs =>
      intro G H t h e
      obtain ⟨vs, x1, x2⟩ := h
      have e : getD1 kt (.dct kvs) = some t := e
      unfold getD1 at e
      simp only at e
      split at e
      · rename_i kk hkk
        obtain ⟨v, v1, v2⟩ := find_kv x2 e
        exact ⟨kk, vs, v, hkk, x1, v1, v2⟩
      · cases e
    | tg j o ih => intro G H t h e; exact ih h.2 e
  have hput : ∀ {o : Ob} {G : Hp} {H : Hp} {u : T} {z : V} {o' : Ob} {kk : Key}, RepOb (kb g W) G H a o → toKey kt = some kk → Rp g.K G z u → liftO (putDF kt u) o = some o' → ∃ vs, H a = some (.dK vs) ∧ vs.length < sizeLine ∧ RepOb (kb g W) G (upd H a (.dK (putK vs kk z))) a o' := by
    intro o
    induction o with
    | lst us => intro G H u z o' kk _ _ _ e; cases e
    | dct kvs =>
      intro G H u z o' kk h hkt hu qp
      have qp : putDF kt u (.dct kvs) = some o' := qp
      unfold putDF at qp
      simp only [hkt] at qp
      split at qp
      · rename_i hsz
        injection qp with qp; subst qp
        obtain ⟨vs4, y1, y2⟩ := h
        exact ⟨vs4, y1, by rw [y2.length]; exact hsz, _, upd_same, y2.put hu⟩
      · cases qp
    | tg j o ih =>
      intro G H u z o' kk h hkt hu e
      simp only [liftO] at e
      cases qe : liftO (putDF kt u) o with
      | none => rw [qe] at e; cases e
      | some w =>
        rw [qe] at e; cases e
        obtain ⟨vs, e1, e2, e3⟩ := ih h.2 hkt hu qe
        exact ⟨vs, e1, e2, h.1, e3⟩
  obtain ⟨kk, vs, v, hkk, x1, v1, v2⟩ := hget w3 eg
  refine ⟨a, v, rfl, by rw [toKey_rp hk hkk, ← v1]; exact DGet.k x1, Z2, env2, p2.rep, (FromS.ct.bind c2).mono fun y2 H3 ⟨Z3, env3, r, p3, k3, l3, c3⟩ => ?_⟩
  obtain ⟨t, et, c3⟩ := lk_only (P := FromS g W D σ Z env H Z3 env3 H3) (fun z => z.2) c3
  obtain ⟨kt', ek', c3⟩ := lk_only (P := FromS g W D σ Z env H Z3 env3 H3) (fun z => z.2) c3
  obtain ⟨p3', c3⟩ := c3
  have hold : Rp g.K (hid Z3 env3 σ H3) v old := v2.mono p3.same
  have ht := l3.look1 p3.rep et
  cases qf : f old t with
  | none => rw [qf] at c3; exact c3.elim
  | some w =>
    rw [qf] at c3
    cases w with
    | v u =>
      cases qd : decide (toKey kt' = toKey kt) with
      | false => rw [qd] at c3; exact c3.elim
      | true =>
        rw [qd] at c3
        refine hs hid_le (hold.one hid_le) ht qf fun z H4 n => ?_
        obtain ⟨sm, hz⟩ := n
        have p4 := Post.grow p3.rep sm
        have c5 : OutS g W D σ Z env H ((modE i (fun o => (liftO (putDF kt u) o).map fun o' => (o', T.none)) env3).bind fun _ e => .ok .nx e) := c3
        unfold modE at c5
        cases qe : env3[i]? with
        | none => rw [qe] at c5; exact c5.elim
        | some s =>
          rw [qe] at c5
          cases s with
          | own o4 =>
            simp only at c5
            cases qp : liftO (putDF kt u) o4 with
            | none => rw [qp] at c5; exact c5.elim
            | some o' =>
              rw [qp] at c5
              obtain ⟨a', w1, w2, w3⟩ := p4.rep.own i o4 qe
              rw [ha] at w1; injection w1 with w1; injection w1 with w1; injection w1 with w1; subst w1
              have hu : Rp g.K (hid Z3 env3 σ H4) z u := hz _ p4.same fun q o z1 z2 => by
                refine hid_some.mpr ⟨fun hz => ?_, fun so => ?_, z2⟩
                · obtain ⟨o', e⟩ := p3.rep.zd q hz
                  rw [z1] at e; cases e
                · obtain ⟨o', e⟩ := p3.rep.so_dom so
                  rw [z1] at e; cases e
              obtain ⟨vs4, y1, y2, y3⟩ := hput w3 hkk hu qp
              obtain ⟨p6, k6, _⟩ := own_upd p4.rep qe ha y3
              refine ⟨_, ?_, c5 σ _ Z (((p3'.trans p4).trans p6).lessZ)⟩
              rw [toKey_rp hk hkk]
              exact DPut.k y1 y2
          | _ => exact c5.elim
    | _ => exact c3.elim
theorem xdaug {W : WB} {i : Nat} {op : Operator} {rd : R2} {f : T → T → Option Vw} {o ie e : Expr} {I A : M Vw} {tpos pos : Pos} (hu : X.A.units + 1 < cLine) (ho : XE X W o (mVar i)) (hi : XE X W ie I) (he : XE X W e A) (hop : InOp X op rd) (hs : OpS (kb X.g W) rd f)
    (ha : ∀ ov iv new, augStore ie ov iv new = (do holding [new, ov, iv] (setItem ov iv new); release [new, ov, iv] []; pure .next)) : XS X W (.AugAssign (.Subscript o ie tpos) op e pos) (mDaug i I A f) :=
  (ps_daug hu ho hi he hop ha).weak fun D σ H h => rd_daug (g := X.g) hs h

/-! ### name op= e -/
def mAug (i : Nat) (f : T → T → Option Vw) (A : M Vw) : MS := (mVar i).bind fun r => A.bind fun s => (lk r).bind fun a => (lk s).bind fun b => (opt (f a b)).bind fun w => (put i w).bind fun _ e => .ok .nx e
end
end Ev
end P_Ev8

section P_Ev9
set_option Elab.async false
set_option linter.all false
set_option maxRecDepth 100000
/-! Ev9: several targets at once, name op= e, dict displays. -/
namespace Ev
open PySem L2 PySem.Spec
open PyProof.Rows hiding St
set_option autoImplicit false

/-! ### several new values stored -/
def stab (r : Vw) : M Vw := match r with
  | .sl i => (toT (.sl i)).bind fun t e => .ok (.v t) e
  | r => fun e => .ok r e
def stabs : List Vw → M (List Vw)
  | [] => fun e => .ok [] e
  | r :: rs => (stab r).bind fun r => (stabs rs).bind fun rs e => .ok (r :: rs) e
def puts : List Nat → List Vw → M Unit
  | [], [] => fun e => .ok () e
  | i :: is, r :: rs => (put i r).bind fun _ => puts is rs
  | _, _ => fun _ => .no
def mPar (is : List Nat) (A : M (List Vw)) : MS := A.bind fun rs => (stabs rs).bind fun rs => (puts is rs).bind fun _ e => .ok .nx e
def noSl : Vw → Prop
  | .sl _ => False
  | _ => True
def FrAt (r : Vw) (x : V) (a : Addr) : Prop := ∃ o, r = .fr o ∧ x = V.ref a
def setAll (σ : St) : List Nat → List V → St
  | i :: is, x :: xs => setAll (σ.set i (some x)) is xs
  | _, _ => σ
section
variable {K : KB} {Z Z1 : SetA} {env env1 env2 : Sls} {σ : St} {H0 H H1 : Hp} {r : Vw} {x : V}
theorem stab_ok (rE : RepEnv K Z1 env σ H) (l : RR K Z1 env σ H0 H r x) {r' : Vw} (e : stab r env = .ok r' env2) : Post K Z1 env σ H Z1 env2 σ H ∧ Kp env env2 ∧ RR K Z1 env2 σ H0 H r' x ∧ noSl r' ∧ ∀ a, FrAt r' x a → FrAt r x a := by
  cases r with
  | v t => injection e with e1 e2; subst e1; subst e2; exact ⟨rE.post, Kp.refl, l, trivial, fun _ h => h⟩
  | fr o => injection e with e1 e2; subst e1; subst e2; exact ⟨rE.post, Kp.refl, l, trivial, fun _ h => h⟩
  | sl i =>
    unfold stab M.bind at e
    simp only at e
    cases q : toT (.sl i) env with
    | er y e => exact (toT_er q).elim
    | no => rw [q] at e; cases e
    | ok t env3 =>
      rw [q] at e
      injection e with e1 e2; subst e1; subst e2
      -- a slot's thing, let go, is seen under the same hidden cells
      obtain ⟨h1, h2 | h2⟩ := l
      · obtain ⟨o, h2⟩ := h2
        simp only [toT, h2] at q
        injection q with q1 q2; subst q1; subst q2
        obtain ⟨p, k, a, h3, h4⟩ := freeze rE h2
        rw [h1] at h3; injection h3 with h3; injection h3 with h3; subst h3
        exact ⟨p, k, h4, trivial, fun a ⟨o, e, _⟩ => by cases e⟩
      · obtain ⟨u, h2⟩ := h2
        simp only [toT, h2] at q
        injection q with q1 q2; subst q1; subst q2
        obtain ⟨y, h3, h4⟩ := rE.v i u h2
        rw [h1] at h3; injection h3 with h3; injection h3 with h3; subst h3
        exact ⟨rE.post, Kp.refl, h4, trivial, fun a ⟨o, e, _⟩ => by cases e⟩
theorem stab_er {y : Exc} : stab r env ≠ .er y env2 := by
  intro e
  cases r with
  | v t => cases e
  | fr o => cases e
  | sl i =>
    unfold stab M.bind at e
    simp only at e
    cases q : toT (.sl i) env with
    | er y e => exact (toT_er q).elim
    | no => rw [q] at e; cases e
    | ok t env3 => rw [q] at e; cases e
theorem stabs_ok : ∀ {rs rs' : List Vw} {xs : List V} {env env2 : Sls}, RepEnv K Z1 env σ H → RRs K Z1 env σ H0 H rs xs → stabs rs env = .ok rs' env2 →
    Post K Z1 env σ H Z1 env2 σ H ∧ Kp env env2 ∧ RRs K Z1 env2 σ H0 H rs' xs ∧ (∀ r, r ∈ rs' → noSl r) ∧ ∀ a, NoFr a rs xs → NoFr a rs' xs
  | [], _, _, _, _, rE, l, e => by
    cases l
    injection e with e1 e2; subst e1; subst e2
    exact ⟨rE.post, Kp.refl, .nil, (fun _ h => by cases h), fun _ h => h⟩
  | r :: rs, _, _, env, _, rE, l, e => by
    cases l with
    | cons l1 l2 l3 =>
      simp only [stabs, M.bind] at e
      cases q1 : stab r env with
      | er y e => exact (stab_er q1).elim
      | no => rw [q1] at e; cases e
      | ok r' env1 =>
        rw [q1] at e
        simp only [R.bind, M.bind] at e
        obtain ⟨p1, k1, m1, n1, f1⟩ := stab_ok rE l1 q1
        cases q2 : stabs rs env1 with
        | er y e2 => rw [q2] at e; cases e
        | no => rw [q2] at e; cases e
        | ok rs' env3 =>
          rw [q2] at e
          injection e with e1 e2; subst e1; subst e2
          obtain ⟨p2, k2, m2, n2, f2⟩ := stabs_ok p1.rep (l2.step rE p1 k1) q2
          refine ⟨p1.trans p2, k1.trans k2, .cons (m1.step p1.rep p2 k2) m2 fun o a e1 e2 => ?_, fun r h => ?_, fun a hn k o e f => ?_⟩
          · obtain ⟨o', e3, _⟩ := f1 a ⟨o, e1, e2⟩
            exact f2 a (l3 o' a e3 e2)
          · rcases List.mem_cons.mp h with h | h
            · subst h; exact n1
            · exact n2 r h
          · cases k with
            | zero =>
              simp at e f
              obtain ⟨o', e3, _⟩ := f1 a ⟨o, e, f⟩
              exact hn 0 o' (by simp [e3]) (by simp [f])
            | succ k => exact f2 a (fun k o e f => hn (k + 1) o (by simpa using e) (by simpa using f)) k o (by simpa using e) (by simpa using f)
theorem stabs_er {y : Exc} : ∀ {rs : List Vw} {env env2 : Sls}, stabs rs env ≠ .er y env2
  | [], _, _, e => by cases e
  | r :: rs, env, _, e => by
    simp only [stabs, M.bind] at e
    cases q1 : stab r env with
    | er y e => exact (stab_er q1).elim
    | no => rw [q1] at e; cases e
    | ok r' env1 =>
      rw [q1] at e
      simp only [R.bind, M.bind] at e
      cases q2 : stabs rs env1 with
      | er y e => exact (stabs_er q2).elim
      | no => rw [q2] at e; cases e
      | ok rs' env3 => rw [q2] at e; cases e
/-- a state on the way: what the start says of it -/
structure Way (K : KB) (Z : SetA) (env0 : Sls) (σ0 : St) (H0 : Hp) (Z1 : SetA) (env : Sls) (σ : St) (H : Hp) : Prop where
  p : Post K Z env0 σ0 H0 Z1 env σ H
theorem put_step {i : Nat} (zd : ∀ p, Z p → ∃ o, H0 p = some o) {env0 : Sls} {σ0 : St} (p : Post K Z env0 σ0 H0 Z1 env σ H) (l : RR K Z1 env σ H0 H r x) (ns : noSl r) (e : put i r env = .ok () env2) :
    ∃ Z2, Post K Z env0 σ0 H0 Z2 env2 (σ.set i (some x)) H ∧ (∀ {r' x'}, RR K Z1 env σ H0 H r' x' → noSl r' → (∀ a, FrAt r x a → ¬ FrAt r' x' a) → RR K Z2 env2 (σ.set i (some x)) H0 H r' x') := by
  unfold put at e
  split at e
  case isFalse => cases e
  rename_i hi
  cases r with
  | v t =>
    injection e with _ e; subst e
    have ps := set_v p.rep hi l
    refine ⟨Z1, p.trans ps, fun {r' x'} l' n' _ => ?_⟩
    cases r' with
    | v t' => exact Rp.mono ps.same l'
    | fr o' => obtain ⟨a, e, h1, h2, h3⟩ := l'; exact ⟨a, e, h1, h2, h3.mono ps.same fun _ e => e⟩
    | sl j => exact n'.elim
  | fr o =>
    injection e with _ e; subst e
    obtain ⟨a, rfl, h1, h2, h3⟩ := l
    have na : ¬ (Z1 a ∧ a ≠ a) := fun z => z.2 rfl
    obtain ⟨r1, s1⟩ := set_own (Z := fun p => Z1 p ∧ p ≠ a) p.rep (fun _ z => z.1) na h2 hi h3
    have sm : Same (hid Z1 env σ H) (hid (fun p => Z1 p ∧ p ≠ a) (env.set i (.own o)) (σ.set i (some (.ref a))) H) := fun q u e => by
      obtain ⟨e1, e2, e3⟩ := hid_some.mp e
      refine hid_some.mpr ⟨fun z => e1 z.1, fun z => (s1 q z).elim e2 fun z => ?_, e3⟩
      subst z; exact e1 h2
    refine ⟨_, ⟨r1, p.fr, p.dom, fun q hq => (s1 q hq).elim (p.so q) fun z => .inr (by subst z; exact h1), fun q z => ⟨p.zs q z, fun e => ?_⟩, fun q z => p.zn q z.1⟩, fun {r' x'} l' n' nf => ?_⟩
    · subst e; obtain ⟨u, w⟩ := zd q z; rw [h1] at w; cases w
    · cases r' with
      | v t' => exact Rp.mono sm l'
      | fr o' =>
        obtain ⟨b, e, q1, q2, q3⟩ := l'
        exact ⟨b, e, q1, ⟨q2, fun z => nf a ⟨o, rfl, rfl⟩ ⟨o', rfl, by rw [e, z]⟩⟩, q3.mono sm fun _ e => e⟩
      | sl j => exact n'.elim
  | sl j => exact ns.elim
theorem RRs.get : ∀ {rs : List Vw} {xs : List V} {P : Vw → V → Prop}, RRs K Z1 env σ H0 H rs xs → (∀ r x, RR K Z1 env σ H0 H r x → P r x) → Paired (fun x r => P r x) xs rs
  | _, _, _, .nil, _ => .nil
  | _, _, _, .cons h r _, f => .cons (f _ _ h) (RRs.get r f)
theorem puts_ok (zd : ∀ p, Z p → ∃ o, H0 p = some o) {env0 : Sls} {σ0 : St} : ∀ {is : List Nat} {rs : List Vw} {xs : List V} {Z1 : SetA} {env env2 : Sls} {σ : St}, Post K Z env0 σ0 H0 Z1 env σ H → RRs K Z1 env σ H0 H rs xs → (∀ r, r ∈ rs → noSl r) → puts is rs env = .ok () env2 →
    ∃ Z2, Post K Z env0 σ0 H0 Z2 env2 (setAll σ is xs) H ∧ is.length = xs.length
  | [], [], _, Z1, _, _, _, p, l, _, e => by
    cases l
    injection e with _ e; subst e
    exact ⟨Z1, p, rfl⟩
  | [], _ :: _, _, _, _, _, _, _, _, _, e => by cases e
  | _ :: _, [], _, _, _, _, _, _, _, _, e => by cases e
  | i :: is, r :: rs, _, Z1, env, _, σ, p, l, ns, e => by
    cases l with
    | @cons _ x _ xs l1 l2 l3 =>
      simp only [puts, M.bind] at e
      cases q1 : put i r env with
      | er y e => exact (put_er q1).elim
      | no => rw [q1] at e; cases e
      | ok u env1 =>
        cases u
        rw [q1] at e
        have e' : puts is rs env1 = .ok () _ := e
        obtain ⟨Z2, p2, mv⟩ := put_step zd p l1 (ns r List.mem_cons_self) q1
        have key : ∀ {rs : List Vw} {xs : List V}, RRs K Z1 env σ H0 H rs xs → (∀ r, r ∈ rs → noSl r) → (∀ a, FrAt r x a → NoFr a rs xs) → RRs K Z2 env1 (σ.set i (some x)) H0 H rs xs := by
          intro rs xs l
          induction l with
          | nil => intro _ _; exact .nil
          | cons h _ n ih =>
            intro hs hf
            refine .cons (mv h (hs _ List.mem_cons_self) fun a fa ⟨o', e1, e2⟩ => hf a fa 0 o' (by simp [e1]) (by simp [e2])) (ih (fun r h => hs r (List.mem_cons_of_mem _ h)) fun a fa k o e f => hf a fa (k + 1) o (by simpa using e) (by simpa using f)) n
        obtain ⟨Z3, p3, hl⟩ := puts_ok zd p2 (key l2 (fun r h => ns r (List.mem_cons_of_mem _ h)) fun a ⟨o, e1, e2⟩ => l3 o a e1 e2) (fun r h => ns r (List.mem_cons_of_mem _ h)) e'
        exact ⟨Z3, p3, by rw [List.length_cons, List.length_cons, hl]⟩
theorem puts_er {y : Exc} : ∀ {is : List Nat} {rs : List Vw} {env env2 : Sls}, puts is rs env ≠ .er y env2
  | [], [], _, _, e => by cases e
  | [], _ :: _, _, _, e => by cases e
  | _ :: _, [], _, _, e => by cases e
  | i :: is, r :: rs, env, _, e => by
    simp only [puts, M.bind] at e
    cases q1 : put i r env with
    | er y e => exact (put_er q1).elim
    | no => rw [q1] at e; cases e
    | ok u env1 => rw [q1] at e; exact puts_er e
end
section
variable {g : Gk} {W : WB} {σ : St} {Z : SetA} {env : Sls} {H : Hp} {X : Cx} {D : Ends}
theorem rd_par {is : List Nat} {A : M (List Vw)} (h : tS g W (mPar is A) D σ H) : tA g W A σ H fun xs H1 => is.length = xs.length ∧ D.nx (setAll σ is xs) H1 := by
  obtain ⟨Z, env, rE, h⟩ := h
  refine ⟨Z, env, rE, (OutS.bind0 rE h).mono fun xs H1 ⟨Z1, env1, rs, p1, l1, c1⟩ => ?_⟩
  simp only [M.bind] at c1
  cases q : stabs rs env1 with
  | er y e => exact (stabs_er q).elim
  | no => rw [q] at c1; exact c1.elim
  | ok rs' env2 =>
    rw [q] at c1
    simp only [R.bind, M.bind] at c1
    obtain ⟨p2, k2, l2, n2, _⟩ := stabs_ok p1.rep l1 q
    cases q3 : puts is rs' env2 with
    | er y e => exact (puts_er q3).elim
    | no => rw [q3] at c1; exact c1.elim
    | ok u env3 =>
      cases u
      rw [q3] at c1
      obtain ⟨Z3, p3, hl⟩ := puts_ok rE.zd (p1.trans p2) l2 n2 q3
      exact ⟨hl, c1 _ H1 Z3 p3⟩
theorem xpar2 {W : WB} {i j : Nat} {x y : PySem.Str} {a b : Expr} {A : M (List Vw)} {px py pt pos : Pos} {kt k2 pt2} (hc : X.calm = true) (hN : X.N.Nodup) (hi : X.N[i]? = some x) (hj : X.N[j]? = some y) (hij : i ≠ j)
    (hx : X.env.scope.names.lookup x = some .local) (hy : X.env.scope.names.lookup y = some .local) (ha : XA X W [a, b] A)
    (hw : swappedStores [.Tuple [.Name x px, .Name y py] kt pt] (.Tuple [a, b] k2 pt2) X.env = pure (some [x, y]))
    (hs : swapsWithSole [.Tuple [.Name x px, .Name y py] kt pt] (.Tuple [a, b] k2 pt2) pos.line X.env = pure false := by rfl) : XS X W (.Assign [.Tuple [.Name x px, .Name y py] kt pt] (.Tuple [a, b] k2 pt2) pos) (mPar [i, j] A) :=
  (ps_par hc hN hi hj hij hx hy ha hw hs).weak fun D σ H h => by
    obtain ⟨Z, env, rE, h⟩ := rd_par (g := X.g) h
    exact ⟨Z, env, rE, h.mono fun xs H1 ⟨hl, q⟩ => match xs, hl, q with
      | [v, w], _, q => ⟨v, w, rfl, q⟩⟩
theorem xpar3 {W : WB} {i j l : Nat} {x y z : PySem.Str} {a b c : Expr} {A : M (List Vw)} {px py pz pt pos : Pos} {kt k2 pt2} (hc : X.calm = true) (hN : X.N.Nodup) (hi : X.N[i]? = some x) (hj : X.N[j]? = some y) (hl : X.N[l]? = some z) (hij : i ≠ j) (hil : i ≠ l) (hjl : j ≠ l)
    (hx : X.env.scope.names.lookup x = some .local) (hy : X.env.scope.names.lookup y = some .local) (hz : X.env.scope.names.lookup z = some .local) (ha : XA X W [a, b, c] A)
    (hw : swappedStores [.Tuple [.Name x px, .Name y py, .Name z pz] kt pt] (.Tuple [a, b, c] k2 pt2) X.env = pure (some [x, y, z]))
    (hs : swapsWithSole [.Tuple [.Name x px, .Name y py, .Name z pz] kt pt] (.Tuple [a, b, c] k2 pt2) pos.line X.env = pure false := by rfl) : XS X W (.Assign [.Tuple [.Name x px, .Name y py, .Name z pz] kt pt] (.Tuple [a, b, c] k2 pt2) pos) (mPar [i, j, l] A) :=
  (ps_par3 hc hN hi hj hl hij hil hjl hx hy hz ha hw hs).weak fun D σ H h => by
    obtain ⟨Z, env, rE, h⟩ := rd_par (g := X.g) h
    exact ⟨Z, env, rE, h.mono fun xs H1 ⟨hl, q⟩ => match xs, hl, q with
      | [u, v, w], _, q => ⟨u, v, w, rfl, q⟩⟩

/-! ### name op= e -/
theorem xaug {W : WB} {i : Nat} {x : PySem.Str} {e : Expr} {op : Operator} {r : R2} {f : T → T → Option Vw} {A : M Vw} {pos pos' : Pos} (hN : X.N.Nodup) (hi : X.N[i]? = some x) (hx : Loc X.env.scope x) (he : XE X W e A) (ho : PIp X op r) (hs : OpS (kb X.g W) r f)
    (hf : X.fn x = true ∨ X.env.scope.names.lookup x = some .local := by first | exact .inl rfl | exact .inr rfl | assumption) : XS X W (.AugAssign (.Name x pos') op e pos) (mAug i f A) :=
  (ps_aug hN hi hx he ho hf).weak fun D σ H ⟨Z, env, rE, h⟩ => by
    unfold mAug at h
    have hv : ∃ x0 r0, σ[i]? = some (some x0) ∧ mVar i env = .ok r0 env ∧ RR (kb X.g W) Z env σ H H r0 x0 := by
      have h' : OutS X.g W D σ Z env H ((mVar i env).bind _) := h
      unfold mVar at h' ⊢
      cases e : env[i]? with
      | none => rw [e] at h'; exact h'.elim
      | some s =>
        rw [e] at h'
        cases s with
        | non => exact h'.elim
        | own o =>
          obtain ⟨a, h1, _⟩ := rE.own i o e
          exact ⟨_, _, h1, rfl, h1, .inl ⟨o, e⟩⟩
        | v t =>
          obtain ⟨y, h1, h2⟩ := rE.v i t e
          exact ⟨_, _, h1, rfl, h2⟩
    obtain ⟨x0, r0, hx0, hm, l0⟩ := hv
    have h1 : OutS X.g W D σ Z env H ((A env).bind fun s => (lk r0).bind fun a => (lk s).bind fun b => (opt (f a b)).bind fun w => (put i w).bind fun _ e => .ok .nx e) := by
      have h' : OutS X.g W D σ Z env H ((mVar i env).bind _) := h
      rw [hm] at h'
      exact h'
    refine ⟨x0, hx0, Z, env, rE, (OutS.bind0 (L := LE (kb X.g W) σ) rE h1 |> fun q => (FromS.ct.bind (L := LE (kb X.g W) σ) (C := FromS X.g W D σ Z env H) ⟨rE.post, h1⟩)).mono fun y H1 ⟨Z1, env1, s, p1, k1, l1, c1⟩ => ?_⟩
    obtain ⟨a, ea, c1⟩ := lk_only (P := FromS X.g W D σ Z env H Z1 env1 H1) (fun z => z.2) c1
    obtain ⟨b, eb, c1⟩ := lk_only (P := FromS X.g W D σ Z env H Z1 env1 H1) (fun z => z.2) c1
    obtain ⟨_, c1⟩ := c1
    have l0' := l0.step rE p1 k1
    have c2 : OutS X.g W D σ Z env H (((opt (f a b)) env1).bind fun w => (put i w).bind fun _ e => .ok .nx e) := c1
    unfold opt at c2
    cases qf : f a b with
    | none => rw [qf] at c2; exact c2.elim
    | some w =>
      rw [qf] at c2
      refine hs hid_le (l0'.look1 p1.rep ea) (l1.look1 p1.rep eb) qf fun z H' n => ?_
      cases w with
      | sl j => exact n.elim
      | v t =>
        obtain ⟨sm, hz⟩ := n
        have p2 := Post.grow p1.rep sm
        have hzt : Rp X.K (hid Z1 env1 σ H') z t := hz _ p2.same fun q o z1 z2 => by
          refine hid_some.mpr ⟨fun hz => ?_, fun so => ?_, z2⟩
          · obtain ⟨o', e⟩ := p1.rep.zd q hz
            rw [z1] at e; cases e
          · obtain ⟨o', e⟩ := p1.rep.so_dom so
            rw [z1] at e; cases e
        have c3 : OutS X.g W D σ Z env H ((put i (.v t) env1).bind fun _ e => .ok .nx e) := c2
        cases q : put i (.v t) env1 with
        | er y e => exact (put_er q).elim
        | no => rw [q] at c3; exact c3.elim
        | ok u e2 =>
          rw [q] at c3
          cases u
          exact c3 _ H' Z (put_ok (r := .v t) (p1.trans p2) rE.zd hzt q)
      | fr o =>
        obtain ⟨sm, a', rfl, ha, hr⟩ := n
        have c3 : OutS X.g W D σ Z env H ((put i (.fr o) env1).bind fun _ e => .ok .nx e) := c2
        -- as a new thing, hidden
        have nso : ¬ SO env1 σ a' := fun so => by obtain ⟨o', e⟩ := p1.rep.so_dom so; rw [ha] at e; cases e
        have s1 : Same (hid Z1 env1 σ H1) (hid (fun p => Z1 p ∨ p = a') env1 σ H') := fun p o e => by
          obtain ⟨h1, h2, h3⟩ := hid_some.mp e
          refine hid_some.mpr ⟨fun z => z.elim h1 fun z => ?_, h2, sm _ _ h3⟩
          subst z; rw [ha] at h3; cases h3
        have rE1 := p1.rep
        have p2 : Post (kb X.g W) Z1 env1 σ H1 (fun p => Z1 p ∨ p = a') env1 σ H' := by
          refine ⟨⟨rE1.len, fun i t e => ?_, fun i o e => ?_, rE1.inj, fun p hz => ?_⟩, fun p o e _ => sm p o e, fun p o e => ⟨o, sm p o e⟩, fun _ e => .inl e, fun _ e => .inl e, fun p e => ?_⟩
          · obtain ⟨x, h1, h2⟩ := rE1.v i t e; exact ⟨x, h1, h2.mono s1⟩
          · obtain ⟨b, h1, h2, h3⟩ := rE1.own i o e
            refine ⟨b, h1, fun z => z.elim h2 fun z => ?_, h3.mono s1 fun u e => sm b u e⟩
            subst z; exact nso ⟨i, o, e, h1⟩
          · rcases hz with hz | rfl
            · obtain ⟨o, e⟩ := rE1.zd p hz; exact ⟨o, sm p o e⟩
            · exact hr.dom
          · rcases e with e | rfl
            · exact .inl e
            · exact .inr ha
        cases q : put i (.fr o) env1 with
        | er y e => exact (put_er q).elim
        | no => rw [q] at c3; exact c3.elim
        | ok u e2 =>
          rw [q] at c3
          cases u
          exact c3 _ H' Z (put_ok (r := .fr o) (p1.trans p2) rE.zd ⟨a', rfl, p1.none ha, .inr rfl, hr.mono s1 fun _ e => e⟩ q)

/-! ### {k: v, ..} -/
def mDct (ks : List Key) (A : M (List Vw)) : M Vw := A.bind fun rs => (toTs rs).bind fun ts => if ts.length = ks.length ∧ ks.length ≤ 15 then (fun e => .ok (.fr (.dct (mergeT [] (ks.zip ts)))) e) else fun _ => .no
structure XP (X : Cx) (W : WB) (pos : Pos) (keys : List (Option Expr)) (values : List Expr) (ks : List Key) (A : M (List Vw)) (trs : List (TE × TE)) : Prop where
  pp : PPs X pos keys values trs
  ok : ∀ σ H Q, tA X.g W A σ H (fun xs H' => xs.length = ks.length ∧ Q ((ks.zip xs).map fun kx => (kV kx.1, kx.2)) H') → tPairs trs σ H Q

theorem rd_cons {A : M Vw} {B : M (List Vw)} {Q} (h : tA g W (mCons A B) σ H Q) : tE g W A σ H fun x H1 => tA g W B σ H1 fun xs H2 => Q (x :: xs) H2 := by
  obtain ⟨Z, env, rE, h⟩ := h
  exact ⟨Z, env, rE, (From.ct.bind (Z := Z) (env := env) (H := H) (C := From g W (LA (kb g W) σ) σ Q Z env H) ⟨rE.post, Kp.refl, h⟩).mono fun x H1 ⟨Z1, env1, a, p1, k1, l1, c1⟩ =>
      ⟨Z1, env1, p1.rep, (From.ct.bind c1).mono fun xs H2 ⟨Z2, env2, b, p2, k2, l2, c2⟩ =>
        c2.2.2 (x :: xs) H2 Z2 (p1.trans p2) (k1.trans k2) (.cons (l1.step p1.rep p2 k2) (l2.start fun p => p1.none) (fun o a e1 e2 => nofr_of (by subst e1; subst e2; obtain ⟨b, e, _, _, h3⟩ := l1; injection e with e; subst e; exact h3.dom) l2))⟩⟩
theorem xpnil {W : WB} {pos : Pos} : XP X W pos [] [] [] mNil [] := ⟨pps_nil, fun σ H Q ⟨Z, env, rE, h⟩ => (h [] H Z rE.post Kp.refl .nil).2⟩
theorem xpcons {W : WB} {pos p2 : Pos} {k : PySem.Str} {j} {v : Expr} {keys : List (Option Expr)} {values : List Expr} {ks : List Key} {A : M Vw} {B : M (List Vw)} {trs : List (TE × TE)} (hv : XE X W v A) (hr : XP X W pos keys values ks B trs) :
    XP X W pos (some (.Constant (.str k) j p2) :: keys) (v :: values) (.inr k :: ks) (mCons A B) ((tC (.str k), tE X.g W A) :: trs) :=
  ⟨pps_cons pe_str hv hr.pp, fun σ H Q h => by
    obtain ⟨Z, env, rE, h⟩ := rd_cons (g := X.g) h
    refine ⟨Z, env, rE, h.mono fun x H1 q => hr.ok σ H1 _ ?_⟩
    obtain ⟨Z1, env1, r1, q⟩ := q
    exact ⟨Z1, env1, r1, q.mono fun xs H2 ⟨hl, q⟩ => ⟨by simpa using hl, q⟩⟩⟩
theorem Post.lessTo {K : KB} {Z Zt Z1 : SetA} {env env' : Sls} {σ σ' : St} {H H' : Hp} (p : Post K Z env σ H Z1 env' σ' H') (h1 : ∀ a, Z a → Zt a) (h2 : ∀ a, Zt a → Z1 a) : Post K Z env σ H Zt env' σ' H' :=
  ⟨p.rep.lessZ h2, p.fr, p.dom, p.so, h1, fun a z => p.zn a (h2 a z)⟩
theorem KvR.zip {K : KB} {G : Hp} : ∀ {ks : List Key} {xs : List V} {ts : List T}, RpL K G xs ts → KvR K G (ks.zip xs) (ks.zip ts)
  | [], _, _, _ => .nil
  | _ :: _, _, _, .nil => .nil
  | _ :: _, _, _, .cons h r => .cons h (KvR.zip r)
theorem KvR.merge {K : KB} {G : Hp} : ∀ {ms : List (Key × V)} {us : List (Key × T)} {vs : List (Key × V)} {ts : List (Key × T)}, KvR K G ms us → KvR K G vs ts → KvR K G (mergeK vs ms) (mergeT ts us)
  | _, _, _, _, .nil, s => s
  | _, _, _, _, .cons (k := k) h r, s => by have q := KvR.merge r (s.put (k := k) h); exact q
theorem xdct {W : WB} {pos : Pos} {keys : List (Option Expr)} {values : List Expr} {ks : List Key} {A : M (List Vw)} {trs : List (TE × TE)} (h : XP X W pos keys values ks A trs) (hall : keys.all (·.isSome) = true) (hl : keys.length = values.length) (h0 : keys ≠ []) (h15 : keys.length ≤ 15) :
    XE X W (.Dict keys values pos) (mDct ks A) :=
  (pe_disp h.pp hall hl h0 h15).weak fun σ H Q ⟨Z, env, rE, hh⟩ p hp => by
    have p2 := Post.hide (u := .dK []) rE hp
    refine h.ok _ _ _ ⟨_, env, p2.rep, (From.ct.bind (C := From X.g W (LE (kb X.g W) σ) σ Q Z env H) ⟨p2, Kp.refl, hh⟩).mono fun xs H1 ⟨Z1, env1, rs, p1, k1, l1, c1⟩ => ?_⟩
    obtain ⟨q1, q2, c1⟩ := c1
    simp only [M.bind] at c1
    cases q : toTs rs env1 with
    | er y e => exact (toTs_er q).elim
    | no => rw [q] at c1; exact c1.elim
    | ok ts env2 =>
      rw [q] at c1
      simp only [R.bind] at c1
      split at c1
      case isFalse => exact c1.elim
      rename_i hz
      obtain ⟨p3, k3, s3⟩ := toTs_ok p1.rep l1 q
      have hts := s3 (fun q => Z q ∨ q = p) p1.zs p2.rep.zd
      have hlen : xs.length = ks.length := by rw [hts.length]; exact hz.1
      have hp1 : H1 p = some (.dK []) := p1.fr p _ upd_same fun so => p2.rep.z_so (.inr rfl) so
      have pf := ((p2.trans p1).trans p3).lessTo (Zt := fun q => Z q ∨ q = p) (fun _ z => .inl z) p1.zs
      refine ⟨hlen, hp1, ks.zip xs, rfl, ?_, ?_⟩
      · rw [List.length_zip]; omega
      · have pu := pf.updZ (D := p) (u := .dK (mergeK [] (ks.zip xs))) (.inr rfl) hp
        refine c1 (.ref p) _ _ pu (q2.trans k3) ⟨p, rfl, hp, .inr rfl, _, upd_same, ?_⟩
        rw [hid_updZ (.inr rfl)]
        exact KvR.merge (KvR.zip hts) .nil
end
end Ev
end P_Ev9

section P_Ev10
set_option Elab.async false
set_option linter.all false
set_option maxRecDepth 100000
/-! Ev10: defs and their calls. -/
namespace Ev
open PySem L2 PySem.Spec
open PyProof.Rows hiding St
set_option autoImplicit false

abbrev Args := List Sl
inductive RF where
  | rt (r : Vw) (as : Args)
  | er (x : Exc) (as : Args)
  | no
/-- how names are called -/
abbrev CF := String → Args → RF
structure Fn where
  ps : List String
  n : Nat
  body : CF → MS
  /-- how it is called by keywords -/
  kws : List (List String × List Nat) := []
def strip : Ob → Ob
  | .tg _ o => strip o
  | o => o
def retag : Ob → Ob → Ob
  | .tg k o, o' => .tg k (retag o o')
  | _, o' => o'
def tagA : Nat → Args → Sls
  | _, [] => []
  | j, .own o :: r => .own (.tg j (strip o)) :: tagA (j + 1) r
  | j, s :: r => s :: tagA (j + 1) r
def enter (as : Args) (n : Nat) : Sls := tagA 0 as ++ List.replicate (n - as.length) .non
/-- what was lent comes back -/
def leave (e : Sls) : Nat → Args → Option Args
  | _, [] => some []
  | j, .own o :: r => match e[j]? with
    | some (.own (.tg k o')) => if k = j then (leave e (j + 1) r).map fun as => .own (retag o (strip o')) :: as else none
    | _ => none
  | j, s :: r => (leave e (j + 1) r).map fun as => s :: as
def retOf (r : Vw) (e : Sls) : Option Vw := match r with
  | .v t => some (.v t)
  | .fr o => some (.fr (strip o))
  | .sl i => match e[i]? with
    | some (.own (.tg _ _)) => none
    | some (.own o) => some (.fr o)
    | some (.v t) => some (.v t)
    | _ => none
def endOf (f : Fl) (e : Sls) : Option Vw := match f with
  | .nx => some (.v .none)
  | .rt r => retOf r e
  | _ => none
def finish (as : Args) : R Fl → RF
  | .ok f e => match endOf f e, leave e 0 as with
    | some r, some as' => .rt r as'
    | _, _ => .no
  | .er x e => match leave e 0 as with
    | some as' => .er x as'
    | none => .no
  | .no => .no
def runFn (c : Fn) (cf : CF) (as : Args) : RF := if as.length = c.ps.length then finish as (c.body cf (enter as c.n)) else .no
def callN (Γ : String → Option Fn) : Nat → CF
  | 0 => fun _ _ => .no
  | n + 1 => fun f as => match Γ f with
    | some c => runFn c (callN Γ n) as
    | none => .no
/-- a def's promise -/
def spF (g : Gk) (F : Args → RF) : Sp := fun vs H Q E => ∃ (Z : SetA) (as : Args) (β : Nat → Addr), RepEnv ⟨g.K, β⟩ Z as (vs.map some) H ∧ match F as with
  | .rt r as' => ∀ x H' Z', Post ⟨g.K, β⟩ Z as (vs.map some) H Z' as' (vs.map some) H' → RR ⟨g.K, β⟩ Z' as' (vs.map some) H H' r x → Q x H'
  | .er x as' => ∀ cls d H', Post ⟨g.K, β⟩ Z as (vs.map some) H Z as' (vs.map some) H' → RX g (hid Z as' (vs.map some) H') x cls d H' → E cls d H'
  | .no => False

/-! ### tags -/
section
variable {K K' : KB} {G G' H : Hp} {a : Addr}
theorem RepOb.strip (hK : K.K = K'.K) : ∀ {o : Ob}, RepOb K G H a o → RepOb K' G H a (Ev.strip o)
  | .lst ts, ⟨vs, h1, h2⟩ => ⟨vs, h1, hK ▸ h2⟩
  | .dct ts, ⟨vs, h1, h2⟩ => ⟨vs, h1, hK ▸ h2⟩
  | .tg j o, ⟨_, h⟩ => RepOb.strip hK (o := o) h
theorem RepOb.retag {H1 G1 : Hp} : ∀ {o o' : Ob}, RepOb K G1 H1 a o → RepOb K G H a o' → RepOb K G H a (Ev.retag o o')
  | .lst ts, _, _, h => h
  | .dct ts, _, _, h => h
  | .tg j o, o', ⟨h1, h2⟩, h => ⟨h1, RepOb.retag (o := o) h2 h⟩
end
theorem tagA_len : ∀ {j : Nat} {as : Args}, (tagA j as).length = as.length
  | _, [] => rfl
  | _, .own _ :: r => by simp only [tagA, List.length_cons, tagA_len]
  | _, .v _ :: r => by simp only [tagA, List.length_cons, tagA_len]
  | _, .non :: r => by simp only [tagA, List.length_cons, tagA_len]
theorem tagA_get : ∀ {k j : Nat} {as : Args}, (tagA k as)[j]? = (as[j]?).map fun s => match s with
    | .own o => .own (.tg (k + j) (strip o))
    | s => s
  | _, _, [] => rfl
  | k, 0, .own _ :: r => by simp [tagA]
  | k, 0, .v _ :: r => by simp [tagA]
  | k, 0, .non :: r => by simp [tagA]
  | k, j + 1, .own _ :: r => by
    simp only [tagA, List.getElem?_cons_succ]
    rw [tagA_get, show k + 1 + j = k + (j + 1) by omega]
  | k, j + 1, .v _ :: r => by
    simp only [tagA, List.getElem?_cons_succ]
    rw [tagA_get, show k + 1 + j = k + (j + 1) by omega]
  | k, j + 1, .non :: r => by
    simp only [tagA, List.getElem?_cons_succ]
    rw [tagA_get, show k + 1 + j = k + (j + 1) by omega]
theorem leave_len : ∀ {j : Nat} {as as' : Args} {e : Sls}, leave e j as = some as' → as'.length = as.length
  | _, [], _, _, h => by injection h with h; subst h; rfl
  | j, .own o :: r, _, e, h => by
    unfold leave at h
    split at h
    · split at h
      · cases q : leave e (j + 1) r with
        | none => rw [q] at h; cases h
        | some l => rw [q] at h; cases h; rw [List.length_cons, List.length_cons, leave_len q]
      · cases h
    · cases h
  | j, .v t :: r, _, e, h => by
    simp only [leave] at h
    cases q : leave e (j + 1) r with
    | none => rw [q] at h; cases h
    | some l => rw [q] at h; cases h; rw [List.length_cons, List.length_cons, leave_len q]
  | j, .non :: r, _, e, h => by
    simp only [leave] at h
    cases q : leave e (j + 1) r with
    | none => rw [q] at h; cases h
    | some l => rw [q] at h; cases h; rw [List.length_cons, List.length_cons, leave_len q]
/-- slot by slot -/
theorem leave_get : ∀ {k j : Nat} {as as' : Args} {e : Sls} {s : Sl}, leave e k as = some as' → as[j]? = some s → (∃ o o', s = .own o ∧ e[k + j]? = some (.own (.tg (k + j) o')) ∧ as'[j]? = some (.own (retag o (strip o')))) ∨ ((∀ o, s ≠ .own o) ∧ as'[j]? = some s)
  | _, _, [], _, _, _, _, q => by simp at q
  | k, j, .own o :: r, _, e, s, h, q => by
    unfold leave at h
    split at h
    · rename_i k' o' he
      split at h
      · rename_i hk
        subst hk
        cases q2 : leave e (k' + 1) r with
        | none => rw [q2] at h; cases h
        | some l =>
          rw [q2] at h; cases h
          cases j with
          | zero => simp at q; subst q; exact .inl ⟨o, o', rfl, by simpa using he, rfl⟩
          | succ j =>
            have := leave_get (j := j) q2 (by simpa using q)
            rw [show k' + 1 + j = k' + (j + 1) by omega] at this
            simpa using this
      · cases h
    · cases h
  | k, j, .v t :: r, _, e, s, h, q => by
    simp only [leave] at h
    cases q2 : leave e (k + 1) r with
    | none => rw [q2] at h; cases h
    | some l =>
      rw [q2] at h; cases h
      cases j with
      | zero => simp at q; subst q; exact .inr ⟨(fun o e => by cases e), rfl⟩
      | succ j =>
        have := leave_get (j := j) q2 (by simpa using q)
        rw [show k + 1 + j = k + (j + 1) by omega] at this
        simpa using this
  | k, j, .non :: r, _, e, s, h, q => by
    simp only [leave] at h
    cases q2 : leave e (k + 1) r with
    | none => rw [q2] at h; cases h
    | some l =>
      rw [q2] at h; cases h
      cases j with
      | zero => simp at q; subst q; exact .inr ⟨(fun o e => by cases e), rfl⟩
      | succ j =>
        have := leave_get (j := j) q2 (by simpa using q)
        rw [show k + 1 + j = k + (j + 1) by omega] at this
        simpa using this

/-! ### a def's entry and its end -/
section
variable {g : Gk} {β : Nat → Addr} {Z : SetA} {as : Args} {vs : List V} {H : Hp} {N : List PySem.Str}
/-- where the arguments stand -/
def adrs (vs : List V) (j : Nat) : Addr := match vs[j]? with
  | some (.ref a) => a
  | _ => 0
theorem start_get {j : Nat} (h : j < vs.length) : (L2.start N vs)[j]? = some (vs[j]?) := by
  unfold L2.start
  rw [List.getElem?_append_left (by simpa using h), List.getElem?_map, List.getElem?_eq_getElem h]
  rfl
theorem map_get {j : Nat} {x : V} : (vs.map some)[j]? = some (some x) ↔ vs[j]? = some x := by
  rw [List.getElem?_map]
  cases vs[j]? <;> simp
theorem enter_get {n j : Nat} {s : Sl} (h : (enter as n)[j]? = some s) (hs : s ≠ .non) : j < as.length ∧ ∃ s0, as[j]? = some s0 ∧ ((∃ o, s0 = .own o ∧ s = .own (.tg j (strip o))) ∨ ((∀ o, s0 ≠ .own o) ∧ s = s0)) := by
  unfold enter at h
  by_cases q : j < as.length
  · rw [List.getElem?_append_left (by rw [tagA_len]; exact q), tagA_get, List.getElem?_eq_getElem q] at h
    refine ⟨q, as[j], List.getElem?_eq_getElem q, ?_⟩
    simp only [Option.map_some, Option.some.injEq] at h
    cases e : as[j] with
    | own o => rw [e] at h; simp only [Nat.zero_add] at h; exact .inl ⟨o, rfl, h.symm⟩
    | v t => rw [e] at h; exact .inr ⟨(fun o e => by cases e), h.symm⟩
    | non => rw [e] at h; exact .inr ⟨(fun o e => by cases e), h.symm⟩
  · rw [List.getElem?_append_right (by rw [tagA_len]; omega), List.getElem?_replicate] at h
    split at h
    · injection h with h; exact (hs h.symm).elim
    · cases h
theorem enter_so {n : Nat} (hl : as.length = vs.length) (hn : vs.length ≤ N.length) {p : Addr} : SO (enter as n) (L2.start N vs) p ↔ SO as (vs.map some) p := by
  constructor
  · rintro ⟨j, o, h1, h2⟩
    obtain ⟨hj, s0, h3, h4⟩ := enter_get h1 (by intro e; cases e)
    rcases h4 with ⟨o', rfl, h4⟩ | ⟨h4, h5⟩
    · rw [start_get (by omega)] at h2
      injection h2 with h2
      exact ⟨j, o', h3, map_get.mpr h2⟩
    · exact (h4 o h5.symm).elim
  · rintro ⟨j, o, h1, h2⟩
    have hj : j < as.length := (List.getElem?_eq_some_iff.mp h1).1
    refine ⟨j, .tg j (strip o), ?_, ?_⟩
    · unfold enter
      rw [List.getElem?_append_left (by rw [tagA_len]; exact hj), tagA_get, h1]
      simp
    · rw [start_get (by omega), map_get.mp h2]
theorem enter_hid {n : Nat} (hl : as.length = vs.length) (hn : vs.length ≤ N.length) : hid Z (enter as n) (L2.start N vs) H = hid Z as (vs.map some) H := by
  funext p
  unfold hid
  by_cases q : Z p ∨ SO as (vs.map some) p
  · rw [if_pos q, if_pos (q.imp id (enter_so hl hn).mpr)]
  · rw [if_neg q, if_neg fun z => q (z.imp id (enter_so hl hn).mp)]
theorem enter_rep (rE : RepEnv ⟨g.K, β⟩ Z as (vs.map some) H) (hn : vs.length ≤ N.length) : RepEnv ⟨g.K, adrs vs⟩ Z (enter as N.length) (L2.start N vs) H := by
  have hl : as.length = vs.length := by rw [rE.len, List.length_map]
  refine ⟨?_, fun j t e => ?_, fun j o e => ?_, fun i j o o' a e1 e2 e3 e4 => ?_, rE.zd⟩
  · unfold enter L2.start
    rw [List.length_append, List.length_append, tagA_len, List.length_replicate, List.length_map, List.length_replicate]
    omega
  · obtain ⟨hj, s0, h3, h4⟩ := enter_get e (by intro e; cases e)
    rcases h4 with ⟨o', rfl, h4⟩ | ⟨h4, h5⟩
    · cases h4
    · subst h5
      obtain ⟨x, q1, q2⟩ := rE.v j t h3
      rw [enter_hid hl hn]
      exact ⟨x, by rw [start_get (by omega), map_get.mp q1], q2⟩
  · obtain ⟨hj, s0, h3, h4⟩ := enter_get e (by intro e; cases e)
    rcases h4 with ⟨o', rfl, h4⟩ | ⟨h4, h5⟩
    · injection h4 with h4; subst h4
      obtain ⟨a, q1, q2, q3⟩ := rE.own j o' h3
      rw [enter_hid hl hn]
      have ha := map_get.mp q1
      exact ⟨a, by rw [start_get (by omega), ha], q2, by unfold adrs; simp only; rw [ha], RepOb.strip (K := ⟨g.K, β⟩) (K' := ⟨g.K, adrs vs⟩) rfl q3⟩
    · exact (h4 o h5.symm).elim
  · obtain ⟨hi, s0, h3, h4⟩ := enter_get e1 (by intro e; cases e)
    obtain ⟨hj, s1, h5, h6⟩ := enter_get e2 (by intro e; cases e)
    rw [start_get (by omega)] at e3 e4
    injection e3 with e3
    injection e4 with e4
    rcases h4 with ⟨w, rfl, h4⟩ | ⟨h4, z⟩
    · rcases h6 with ⟨w', rfl, h6⟩ | ⟨h6, z⟩
      · exact rE.inj i j w w' a h3 h5 (map_get.mpr e3) (map_get.mpr e4)
      · exact (h6 o' z.symm).elim
    · exact (h4 o z.symm).elim

/-- what came back owns just what was lent -/
theorem leave_so {e : Sls} {as' : Args} {xs : List (Option V)} (h : leave e 0 as = some as') {p : Addr} : SO as' xs p ↔ SO as xs p := by
  constructor
  · rintro ⟨j, o, h1, h2⟩
    have hj : j < as.length := by rw [← leave_len h]; exact (List.getElem?_eq_some_iff.mp h1).1
    rcases leave_get h (List.getElem?_eq_getElem hj) with ⟨o1, o2, e1, _, e2⟩ | ⟨n, e2⟩
    · exact ⟨j, o1, by rw [List.getElem?_eq_getElem hj, e1], h2⟩
    · rw [h1] at e2; injection e2 with e2; exact (n o e2.symm).elim
  · rintro ⟨j, o, h1, h2⟩
    rcases leave_get h h1 with ⟨o1, o2, e1, _, e2⟩ | ⟨n, e2⟩
    · exact ⟨j, _, e2, h2⟩
    · exact (n o rfl).elim
/-- a def's end, as its caller sees it -/
theorem leave_post {e : Sls} {as' : Args} {Z1 Z2 : SetA} {σ' : St} {H' : Hp} (rE : RepEnv ⟨g.K, β⟩ Z as (vs.map some) H) (hn : vs.length ≤ N.length) (p : Post ⟨g.K, adrs vs⟩ Z (enter as N.length) (L2.start N vs) H Z1 e σ' H') (h : leave e 0 as = some as')
    (z1 : ∀ q, Z q → Z2 q) (z2 : ∀ q, Z2 q → (Z1 q ∨ SO e σ' q) ∧ ¬ SO as (vs.map some) q) : Post ⟨g.K, β⟩ Z as (vs.map some) H Z2 as' (vs.map some) H' ∧ Same (hid Z1 e σ' H') (hid Z2 as' (vs.map some) H') := by
  have hl : as.length = vs.length := by rw [rE.len, List.length_map]
  -- what was lent stands where it stood
  have key : ∀ {j : Nat} {o : Ob}, as[j]? = some (.own o) → ∃ o', e[j]? = some (.own (.tg j o')) ∧ as'[j]? = some (.own (retag o (strip o'))) ∧ σ'[j]? = some (some (.ref (adrs vs j))) ∧ vs[j]? = some (.ref (adrs vs j)) ∧
      RepOb ⟨g.K, β⟩ (hid Z1 e σ' H') H' (adrs vs j) (retag o (strip o')) := by
    intro j o hj
    rcases leave_get h hj with ⟨o1, o2, e1, e2, e3⟩ | ⟨n, _⟩
    · injection e1 with e1; subst e1
      rw [Nat.zero_add] at e2
      obtain ⟨a, q1, q2, q3, q4⟩ := p.rep.own j _ e2
      subst q3
      obtain ⟨b, w1, w2, w3⟩ := rE.own j o hj
      have hb : vs[j]? = some (.ref b) := map_get.mp w1
      have eb : adrs vs j = b := by unfold adrs; rw [hb]
      refine ⟨o2, e2, e3, q1, by rw [eb]; exact hb, ?_⟩
      refine RepOb.retag (G1 := hid Z as (vs.map some) H) (H1 := H) (by rw [eb]; exact w3) ?_
      exact RepOb.strip (K := ⟨g.K, adrs vs⟩) (K' := ⟨g.K, β⟩) rfl q4
    · exact (n o rfl).elim
  have soE : ∀ {q : Addr}, SO as' (vs.map some) q → SO e σ' q := fun {q} hq => by
    obtain ⟨j, o, h1, h2⟩ := (leave_so h).mp hq
    obtain ⟨o', k1, k2, k3, k4, _⟩ := key h1
    rw [map_get] at h2
    rw [k4] at h2; injection h2 with h2; injection h2 with h2; subst h2
    exact ⟨j, _, k1, k3⟩
  have sm : Same (hid Z1 e σ' H') (hid Z2 as' (vs.map some) H') := fun q u hq => by
    obtain ⟨h1, h2, h3⟩ := hid_some.mp hq
    exact hid_some.mpr ⟨fun z => (z2 q z).1.elim h1 h2, fun z => h2 (soE z), h3⟩
  have s0 : Same (hid Z as (vs.map some) H) (hid Z1 e σ' H') := fun q u hq => p.same _ _ (by rw [enter_hid hl hn]; exact hq)
  refine ⟨⟨⟨by rw [leave_len h]; exact rE.len, fun j t ej => ?_, fun j o ej => ?_, fun i j o o' a e1 e2 e3 e4 => ?_, fun q hq => ?_⟩, fun q u e1 e2 => p.fr q u e1 fun z => e2 ((enter_so hl hn).mp z), p.dom, fun q hq => .inl ((leave_so h).mp hq), z1, fun q hq => ?_⟩, sm⟩
  · have hj : j < as.length := by rw [← leave_len h]; exact (List.getElem?_eq_some_iff.mp ej).1
    rcases leave_get h (List.getElem?_eq_getElem hj) with ⟨o1, o2, e1, _, e2⟩ | ⟨n, e2⟩
    · rw [e2] at ej; cases ej
    · rw [e2] at ej
      have ej' : as[j]? = some (.v t) := by rw [List.getElem?_eq_getElem hj]; exact ej
      obtain ⟨x, w1, w2⟩ := rE.v j t ej'
      exact ⟨x, w1, (w2.mono s0).mono sm⟩
  · have hj : j < as.length := by rw [← leave_len h]; exact (List.getElem?_eq_some_iff.mp ej).1
    rcases leave_get h (List.getElem?_eq_getElem hj) with ⟨o1, o2, e1, _, e2⟩ | ⟨n, e2⟩
    · have hj' : as[j]? = some (.own o1) := by rw [List.getElem?_eq_getElem hj, e1]
      obtain ⟨o', k1, k2, k3, k4, k5⟩ := key hj'
      rw [k2] at ej; injection ej with ej; injection ej with ej; subst ej
      refine ⟨adrs vs j, map_get.mpr k4, fun z => (z2 _ z).2 ⟨j, o1, hj', map_get.mpr k4⟩, k5.mono sm fun _ e => e⟩
    · rw [e2] at ej; injection ej with ej; exact (n o ej).elim
  · have bk : ∀ {j : Nat} {o : Ob}, as'[j]? = some (.own o) → ∃ o', as[j]? = some (.own o') := fun {j o} ej => by
      have hj : j < as.length := by rw [← leave_len h]; exact (List.getElem?_eq_some_iff.mp ej).1
      rcases leave_get h (List.getElem?_eq_getElem hj) with ⟨o1, o2, e1, _, e2⟩ | ⟨n, e2⟩
      · exact ⟨o1, by rw [List.getElem?_eq_getElem hj, e1]⟩
      · rw [e2] at ej; injection ej with ej; exact (n o ej).elim
    obtain ⟨w1, q1⟩ := bk e1
    obtain ⟨w2, q2⟩ := bk e2
    exact rE.inj i j w1 w2 a q1 q2 e3 e4
  · rcases (z2 q hq).1 with z | z
    · exact p.rep.zd q z
    · exact p.rep.so_dom z
  · obtain ⟨h1, h2⟩ := z2 q hq
    rcases h1 with z | z
    · exact p.zn q z
    · rcases p.so q z with w | w
      · exact (h2 ((enter_so hl hn).mp w)).elim
      · exact .inr w
/-- a def's body tells its promise -/
theorem finish_ok {W : WB} {Q : VK} {E : XK} {r : R Fl} (rE : RepEnv ⟨g.K, β⟩ Z as (vs.map some) H) (hn : vs.length ≤ N.length) (hW : W.β = adrs vs) (hE : ∀ cls d σ H, E cls d H → W cls d σ H)
    (h : match finish as r with
      | .rt r as' => ∀ x H' Z', Post ⟨g.K, β⟩ Z as (vs.map some) H Z' as' (vs.map some) H' → RR ⟨g.K, β⟩ Z' as' (vs.map some) H H' r x → Q x H'
      | .er x as' => ∀ cls d H', Post ⟨g.K, β⟩ Z as (vs.map some) H Z as' (vs.map some) H' → RX g (hid Z as' (vs.map some) H') x cls d H' → E cls d H'
      | .no => False) : OutS g W { nx := fun _ H' => Q .non H', rt := Q } (L2.start N vs) Z (enter as N.length) H r := by
  have eW : kb g W = ⟨g.K, adrs vs⟩ := by unfold kb; rw [hW]
  have hl : as.length = vs.length := by rw [rE.len, List.length_map]
  cases r with
  | no => exact h
  | er x e =>
    simp only [finish] at h
    cases q : leave e 0 as with
    | none => rw [q] at h; exact h.elim
    | some as' =>
      rw [q] at h
      intro cls d σ' H' p rx
      rw [eW] at p
      obtain ⟨p2, sm⟩ := leave_post (Z2 := Z) rE hn p q (fun _ z => z) fun q z => ⟨.inl z, rE.z_so z⟩
      exact hE cls d σ' H' (h cls d H' p2 (rx.mono sm))
  | ok f e =>
    simp only [finish] at h
    cases qe : endOf f e with
    | none => rw [qe] at h; exact h.elim
    | some r =>
      cases q : leave e 0 as with
      | none => rw [qe, q] at h; exact h.elim
      | some as' =>
        rw [qe, q] at h
        simp only at h
        -- what is hidden at the end: all but what was lent
        have fin : ∀ {σ' : St} {H' : Hp} {Z' : SetA} {x : V}, Post ⟨g.K, adrs vs⟩ Z (enter as N.length) (L2.start N vs) H Z' e σ' H' → ((∃ t, r = .v t ∧ Rp g.K (hid Z' e σ' H') x t) ∨ ∃ o a, r = .fr o ∧ x = .ref a ∧ H a = none ∧ (Z' a ∨ SO e σ' a) ∧ RepOb ⟨g.K, β⟩ (hid Z' e σ' H') H' a o) → Q x H' := by
          intro σ' H' Z' x p hx
          obtain ⟨p2, sm⟩ := leave_post (Z2 := fun a => (Z' a ∨ SO e σ' a) ∧ ¬ SO as (vs.map some) a) rE hn p q (fun a z => ⟨.inl (p.zs a z), rE.z_so z⟩) fun _ z => z
          refine h x H' _ p2 ?_
          rcases hx with ⟨t, rfl, hx⟩ | ⟨o, a, rfl, rfl, h1, h2, h3⟩
          · exact Rp.mono sm hx
          · refine ⟨a, rfl, h1, ⟨h2, fun so => ?_⟩, h3.mono sm fun _ e => e⟩
            obtain ⟨u, w⟩ := rE.so_dom so
            rw [h1] at w; cases w
        cases f with
        | nx =>
          injection qe with qe; subst qe
          intro σ' H' Z' p
          rw [eW] at p
          exact fin p (.inl ⟨_, rfl, .non⟩)
        | bk => cases qe
        | ct => cases qe
        | rt r0 =>
          intro x σ' H' Z' p l
          rw [eW] at p l
          have qe : retOf r0 e = some r := qe
          cases r0 with
          | v t => injection qe with qe; subst qe; exact fin p (.inl ⟨t, rfl, l⟩)
          | fr o =>
            injection qe with qe; subst qe
            obtain ⟨a, rfl, h1, h2, h3⟩ := l
            exact fin p (.inr ⟨strip o, a, rfl, rfl, h1, .inl h2, RepOb.strip (K := ⟨g.K, adrs vs⟩) (K' := ⟨g.K, β⟩) rfl h3⟩)
          | sl i =>
            obtain ⟨l1, l2⟩ := l
            simp only [retOf] at qe
            split at qe
            · cases qe
            · rename_i o hno ho
              injection qe with qe; subst qe
              obtain ⟨a, w1, w2, w3⟩ := p.rep.own i o ho
              rw [l1] at w1; injection w1 with w1; injection w1 with w1; subst w1
              have soa : SO e σ' a := ⟨i, o, ho, l1⟩
              refine fin p (.inr ⟨o, a, rfl, rfl, ?_, .inr soa, ?_⟩)
              · rcases p.so a soa with z | z
                · obtain ⟨j, w, z1, z2⟩ := (enter_so hl hn).mp z
                  rcases leave_get q z1 with ⟨o1, o2, e1, e2, e3⟩ | ⟨n, _⟩
                  · rw [Nat.zero_add] at e2
                    obtain ⟨b, y1, y2, y3, y4⟩ := p.rep.own j _ e2
                    subst y3
                    have hv : vs[j]? = some (.ref a) := map_get.mp z2
                    have ea : adrs vs j = a := by unfold adrs; rw [hv]
                    have hij := p.rep.inj i j _ _ a ho e2 l1 (by rw [y1]; show some (some (V.ref (adrs vs j))) = _; rw [ea])
                    subst hij
                    rw [ho] at e2; injection e2 with e2; injection e2 with e2
                    exact (hno i o2 e2).elim
                  · exact (n w rfl).elim
                · exact z
              · cases o with
                | lst ts => exact w3
                | dct ts => exact w3
                | tg j o => exact (hno j o rfl).elim
            · rename_i t ht
              injection qe with qe; subst qe
              obtain ⟨y, w1, w2⟩ := p.rep.v i t ht
              rw [l1] at w1; injection w1 with w1; injection w1 with w1; subst w1
              exact fin p (.inl ⟨t, rfl, w2⟩)
            · cases qe
end
end Ev
end P_Ev10

section P_Ev11
set_option Elab.async false
set_option linter.all false
set_option maxRecDepth 100000
/-! Ev11: calls of defs. -/
namespace Ev
open PySem L2 PySem.Spec
open PyProof.Rows hiding St
set_option autoImplicit false

theorem passF {X : Cx} (σ : St) : PassesAt (L2.CX X.prog X.w) X σ (fun _ _ _ => False) := fun pins H s e s' I c => by
  obtain ⟨a, B, H', cls, d, h⟩ := c
  exact (h.2.2.2.2.2.2.2).elim
inductive AV where
  | t (t : T)
  | b (i : Nat)
def argT (b : Bool) (r : Vw) : M AV := match b, r with
  | true, .sl i => fun e => .ok (.b i) e
  | true, _ => fun _ => .no
  | false, r => (toT r).bind fun t e => .ok (.t t) e
def argsT : List Bool → List Vw → M (List AV)
  | [], [] => fun e => .ok [] e
  | b :: bs, r :: rs => (argT b r).bind fun a => (argsT bs rs).bind fun as e => .ok (a :: as) e
  | _, _ => fun _ => .no
def argsS (e : Sls) : List AV → Option (List Sl)
  | [] => some []
  | .t t :: r => (argsS e r).map fun ss => .v t :: ss
  | .b i :: r => match e[i]? with
    | some (.own o) => (argsS e r).map fun ss => .own o :: ss
    | _ => none
def bIdx : List AV → List Nat
  | [] => []
  | .t _ :: r => bIdx r
  | .b i :: r => i :: bIdx r
def back (e : Sls) : List AV → List Sl → Sls
  | .b i :: avs, .own o :: ss => back (e.set i (.own o)) avs ss
  | _ :: avs, _ :: ss => back e avs ss
  | _, _ => e
/-- as many, and what was lent comes back -/
def likeA : List Sl → List Sl → Bool
  | [], [] => true
  | .own _ :: r, .own _ :: r' => likeA r r'
  | .own _ :: _, _ :: _ => false
  | _ :: r, _ :: r' => likeA r r'
  | _, _ => false
def callA (cf : CF) (f : String) (avs : List AV) : M Vw := fun e => match argsS e avs with
  | none => .no
  | some as => if (bIdx avs).Nodup then (match cf f as with
    | .rt (.sl _) _ => .no
    | .rt r as' => if likeA as as' then .ok r (back e avs as') else .no
    | .er x as' => if likeA as as' then .er x (back e avs as') else .no
    | .no => .no) else .no
def mCall (cf : CF) (f : String) (bs : List Bool) (A : M (List Vw)) : M Vw := A.bind fun rs => (argsT bs rs).bind fun avs => callA cf f avs
def permL {α : Type} (l : List α) : List Nat → Option (List α)
  | [] => some []
  | k :: ks => match l[k]? with
    | some a => (permL l ks).map fun r => a :: r
    | none => none
/-- f(k = e, ..): the values in the order of the keywords, handed on in the parameters' -/
def mCallK (cf : CF) (f : String) (bs : List Bool) (perm : List Nat) (A : M (List Vw)) : M Vw := A.bind fun rs => (argsT bs rs).bind fun avs => match permL avs perm with
  | some avs' => callA cf f avs'
  | none => fun _ => .no
theorem likeA_ok : ∀ {as as' : List Sl}, likeA as as' = true → as'.length = as.length ∧ ∀ (j : Nat) (o : Ob), as[j]? = some (Sl.own o) → ∃ o' : Ob, as'[j]? = some (Sl.own o')
  | [], [], _ => ⟨rfl, fun j o h => by simp at h⟩
  | [], _ :: _, h => by cases h
  | .own _ :: _, [], h => by cases h
  | .v _ :: _, [], h => by cases h
  | .non :: _, [], h => by cases h
  | .own _ :: r, .own o1 :: r', h => by
    obtain ⟨a, b⟩ := likeA_ok (as := r) (as' := r') h
    refine ⟨by simp [a], fun j o q => ?_⟩
    cases j with
    | zero => exact ⟨o1, rfl⟩
    | succ j => simpa using b j o (by simpa using q)
  | .own _ :: r, .v _ :: r', h => by cases h
  | .own _ :: r, .non :: r', h => by cases h
  | .v _ :: r, s :: r', h => by
    obtain ⟨a, b⟩ := likeA_ok (as := r) (as' := r') (by simpa [likeA] using h)
    refine ⟨by simp [a], fun j o q => ?_⟩
    cases j with
    | zero => simp at q
    | succ j => simpa using b j o (by simpa using q)
  | .non :: r, s :: r', h => by
    obtain ⟨a, b⟩ := likeA_ok (as := r) (as' := r') (by simpa [likeA] using h)
    refine ⟨by simp [a], fun j o q => ?_⟩
    cases j with
    | zero => simp at q
    | succ j => simpa using b j o (by simpa using q)
theorem back_len : ∀ {avs : List AV} {ss : List Sl} {e : Sls}, (back e avs ss).length = e.length
  | [], ss, e => by cases ss <;> rfl
  | .t _ :: avs, [], _ => rfl
  | .b _ :: avs, [], _ => rfl
  | .t _ :: avs, s :: ss, e => by simp only [back]; exact back_len
  | .b i :: avs, .own o :: ss, e => by simp only [back]; rw [back_len, List.length_set]
  | .b i :: avs, .v _ :: ss, e => by simp only [back]; exact back_len
  | .b i :: avs, .non :: ss, e => by simp only [back]; exact back_len
theorem mem_bIdx {i : Nat} : ∀ {avs : List AV}, i ∈ bIdx avs ↔ ∃ j : Nat, avs[j]? = some (AV.b i)
  | [] => by simp [bIdx]
  | .t _ :: r => by
    simp only [bIdx]
    rw [mem_bIdx]
    constructor
    · rintro ⟨j, h⟩; exact ⟨j + 1, by simpa using h⟩
    · rintro ⟨j, h⟩
      cases j with
      | zero => simp at h
      | succ j => exact ⟨j, by simpa using h⟩
  | .b k :: r => by
    simp only [bIdx, List.mem_cons]
    rw [mem_bIdx]
    constructor
    · rintro (rfl | ⟨j, h⟩)
      · exact ⟨0, rfl⟩
      · exact ⟨j + 1, by simpa using h⟩
    · rintro ⟨j, h⟩
      cases j with
      | zero => simp at h; exact .inl h.symm
      | succ j => exact .inr ⟨j, by simpa using h⟩
theorem back_out {i : Nat} : ∀ {avs : List AV} {ss : List Sl} {e : Sls}, i ∉ bIdx avs → (back e avs ss)[i]? = e[i]?
  | [], ss, e, _ => by cases ss <;> rfl
  | .t _ :: avs, [], _, _ => rfl
  | .b _ :: avs, [], _, _ => rfl
  | .t _ :: avs, s :: ss, e, h => by simp only [back]; exact back_out h
  | .b k :: avs, .own o :: ss, e, h => by
    simp only [bIdx, List.mem_cons, not_or] at h
    simp only [back]
    rw [back_out h.2, List.getElem?_set_ne (fun z => h.1 z.symm)]
  | .b k :: avs, .v _ :: ss, e, h => by
    simp only [bIdx, List.mem_cons, not_or] at h
    simp only [back]; exact back_out h.2
  | .b k :: avs, .non :: ss, e, h => by
    simp only [bIdx, List.mem_cons, not_or] at h
    simp only [back]; exact back_out h.2
theorem back_in {i j : Nat} {o : Ob} : ∀ {avs : List AV} {ss : List Sl} {e : Sls}, (bIdx avs).Nodup → avs[j]? = some (AV.b i) → ss[j]? = some (.own o) → i < e.length → (back e avs ss)[i]? = some (.own o) := by
  induction j with
  | zero =>
    intro avs ss e hn h1 h2 hi
    cases avs with
    | nil => simp at h1
    | cons a avs =>
      simp at h1; subst h1
      cases ss with
      | nil => simp at h2
      | cons s ss =>
        simp at h2; subst h2
        simp only [back]
        simp only [bIdx, List.nodup_cons] at hn
        rw [back_out hn.1, List.getElem?_set_self hi]
  | succ j ih =>
    intro avs ss e hn h1 h2 hi
    cases avs with
    | nil => simp at h1
    | cons a avs =>
      cases ss with
      | nil => simp at h2
      | cons s ss =>
        simp at h1 h2
        cases a with
        | t t => simp only [back]; exact ih hn h1 h2 hi
        | b k =>
          simp only [bIdx, List.nodup_cons] at hn
          cases s with
          | own o' => simp only [back]; exact ih hn.2 h1 h2 (by rw [List.length_set]; exact hi)
          | v t => simp only [back]; exact ih hn.2 h1 h2 hi
          | non => simp only [back]; exact ih hn.2 h1 h2 hi
section
variable {K : KB} {Z Z1 : SetA} {env env1 env2 : Sls} {σ : St} {H0 H H1 : Hp}
/-- what an argument is -/
inductive AVR (K : KB) (H0 : Hp) (Z1 : SetA) (env : Sls) (σ : St) (H : Hp) : List AV → List V → Prop
  | nil : AVR K H0 Z1 env σ H [] []
  | t {t : T} {x : V} {avs : List AV} {xs : List V} : Sees K H0 Z1 env σ H x t → AVR K H0 Z1 env σ H avs xs → AVR K H0 Z1 env σ H (.t t :: avs) (x :: xs)
  | b {i : Nat} {x : V} {avs : List AV} {xs : List V} : σ[i]? = some (some x) → AVR K H0 Z1 env σ H avs xs → AVR K H0 Z1 env σ H (.b i :: avs) (x :: xs)
theorem AVR.step (p : Post K Z1 env σ H Z1 env1 σ H1) : ∀ {avs : List AV} {xs : List V}, AVR K H0 Z1 env σ H avs xs → AVR K H0 Z1 env1 σ H1 avs xs
  | _, _, .nil => .nil
  | _, _, .t h r => .t (h.step p) (AVR.step p r)
  | _, _, .b h r => .b h (AVR.step p r)
theorem argsT_er {y : Exc} : ∀ {bs : List Bool} {rs : List Vw} {env env2 : Sls}, argsT bs rs env ≠ .er y env2
  | [], [], _, _, e => by cases e
  | [], _ :: _, _, _, e => by cases e
  | _ :: _, [], _, _, e => by cases e
  | b :: bs, r :: rs, env, _, e => by
    simp only [argsT, M.bind] at e
    cases q : argT b r env with
    | er y e2 =>
      cases b with
      | true => cases r <;> cases q
      | false =>
        have q : (toT r env).bind (fun t e => R.ok (AV.t t) e) = .er y e2 := q
        cases q2 : toT r env with
        | er y e => exact (toT_er q2).elim
        | no => rw [q2] at q; cases q
        | ok t e => rw [q2] at q; cases q
    | no => rw [q] at e; cases e
    | ok a env1 =>
      rw [q] at e
      simp only [R.bind, M.bind] at e
      cases q2 : argsT bs rs env1 with
      | er y e2 => exact (argsT_er q2).elim
      | no => rw [q2] at e; cases e
      | ok as e2 => rw [q2] at e; cases e
theorem argsT_ok : ∀ {bs : List Bool} {rs : List Vw} {xs : List V} {avs : List AV} {env env2 : Sls}, RepEnv K Z1 env σ H → RRs K Z1 env σ H0 H rs xs → argsT bs rs env = .ok avs env2 → Post K Z1 env σ H Z1 env2 σ H ∧ Kp env env2 ∧ AVR K H0 Z1 env2 σ H avs xs
  | [], [], _, _, _, _, rE, l, e => by
    cases l
    injection e with e1 e2; subst e1; subst e2
    exact ⟨rE.post, Kp.refl, .nil⟩
  | [], _ :: _, _, _, _, _, _, _, e => by cases e
  | _ :: _, [], _, _, _, _, _, _, e => by cases e
  | b :: bs, r :: rs, _, _, env, _, rE, l, e => by
    cases l with
    | cons l1 l2 l3 =>
      simp only [argsT, M.bind] at e
      cases q : argT b r env with
      | er y e2 => rw [q] at e; cases e
      | no => rw [q] at e; cases e
      | ok a env1 =>
        rw [q] at e
        simp only [R.bind, M.bind] at e
        cases q2 : argsT bs rs env1 with
        | er y e2 => rw [q2] at e; cases e
        | no => rw [q2] at e; cases e
        | ok as env3 =>
          rw [q2] at e
          injection e with e1 e2; subst e1; subst e2
          cases b with
          | true =>
            cases r with
            | sl i =>
              injection q with q1 q3; subst q1; subst q3
              obtain ⟨p2, k2, r2⟩ := argsT_ok rE l2 q2
              exact ⟨p2, k2, .b l1.1 r2⟩
            | v t => cases q
            | fr o => cases q
          | false =>
            have q : (toT r env).bind (fun t e => R.ok (AV.t t) e) = .ok a env1 := q
            cases q3 : toT r env with
            | er y e => exact (toT_er q3).elim
            | no => rw [q3] at q; cases q
            | ok t e =>
              rw [q3] at q
              injection q with q1 q4; subst q1; subst q4
              obtain ⟨p1, k1, s1⟩ := toT_ok rE l1 q3
              obtain ⟨p2, k2, r2⟩ := argsT_ok p1.rep (l2.step rE p1 k1) q2
              exact ⟨p1.trans p2, k1.trans k2, .t (s1.step p2) r2⟩
theorem argsS_get {e : Sls} : ∀ {avs : List AV} {as : List Sl} {xs : List V} {j : Nat} {s : Sl}, AVR K H0 Z1 env σ H avs xs → argsS e avs = some as → as[j]? = some s →
    (∃ t x, avs[j]? = some (.t t) ∧ s = .v t ∧ xs[j]? = some x ∧ Sees K H0 Z1 env σ H x t) ∨ ∃ i o x, avs[j]? = some (AV.b i) ∧ s = .own o ∧ e[i]? = some (.own o) ∧ xs[j]? = some x ∧ σ[i]? = some (some x)
  | _, _, _, j, s, .nil, h, q => by injection h with h; subst h; simp at q
  | _, _, _, j, s, .t (t := t) (x := x) h1 r, h, q => by
    simp only [argsS] at h
    cases q2 : argsS e ‹_› with
    | none => rw [q2] at h; cases h
    | some l =>
      rw [q2] at h; cases h
      cases j with
      | zero => simp at q; subst q; exact .inl ⟨t, x, rfl, rfl, rfl, h1⟩
      | succ j => simpa using argsS_get (j := j) r q2 (by simpa using q)
  | _, _, _, j, s, .b (i := i) (x := x) h1 r, h, q => by
    simp only [argsS] at h
    split at h
    · rename_i o ho
      cases q2 : argsS e ‹_› with
      | none => rw [q2] at h; cases h
      | some l =>
        rw [q2] at h; cases h
        cases j with
        | zero => simp at q; subst q; exact .inr ⟨i, o, x, rfl, rfl, ho, rfl, h1⟩
        | succ j => simpa using argsS_get (j := j) r q2 (by simpa using q)
    · cases h
theorem argsS_len {e : Sls} : ∀ {avs : List AV} {as : List Sl} {xs : List V}, AVR K H0 Z1 env σ H avs xs → argsS e avs = some as → as.length = xs.length ∧ avs.length = xs.length
  | _, _, _, .nil, h => by injection h with h; subst h; exact ⟨rfl, rfl⟩
  | _, _, _, .t h1 r, h => by
    simp only [argsS] at h
    cases q2 : argsS e ‹_› with
    | none => rw [q2] at h; cases h
    | some l =>
      rw [q2] at h; cases h
      obtain ⟨a, b⟩ := argsS_len r q2
      exact ⟨by simp [a], by simp [b]⟩
  | _, _, _, .b h1 r, h => by
    simp only [argsS] at h
    split at h
    · cases q2 : argsS e ‹_› with
      | none => rw [q2] at h; cases h
      | some l =>
        rw [q2] at h; cases h
        obtain ⟨a, b⟩ := argsS_len r q2
        exact ⟨by simp [a], by simp [b]⟩
    · cases h
theorem bIdx_inj : ∀ {avs : List AV} {j k i : Nat}, (bIdx avs).Nodup → avs[j]? = some (AV.b i) → avs[k]? = some (AV.b i) → j = k
  | [], _, _, _, _, h, _ => by simp at h
  | .t t :: r, j, k, i, hn, h1, h2 => by
    cases j with
    | zero => simp at h1
    | succ j =>
      cases k with
      | zero => simp at h2
      | succ k => exact congrArg (· + 1) (bIdx_inj (avs := r) (j := j) (k := k) (i := i) hn (by simpa using h1) (by simpa using h2))
  | .b m :: r, j, k, i, hn, h1, h2 => by
    simp only [bIdx, List.nodup_cons] at hn
    cases j with
    | zero =>
      simp at h1; subst h1
      cases k with
      | zero => rfl
      | succ k => exact (hn.1 (mem_bIdx.mpr ⟨k, by simpa using h2⟩)).elim
    | succ j =>
      cases k with
      | zero => simp at h2; subst h2; exact (hn.1 (mem_bIdx.mpr ⟨j, by simpa using h1⟩)).elim
      | succ k => exact congrArg (· + 1) (bIdx_inj (avs := r) (j := j) (k := k) (i := i) hn.2 (by simpa using h1) (by simpa using h2))
/-- the callee's view of the caller's state, and back -/
theorem call_view {avs : List AV} {as : List Sl} {xs : List V} (rE : RepEnv K Z env σ H) (hv : AVR K H0 Z1 env σ H avs xs) (hz : ∀ p, Z p → Z1 p) (hd : ∀ p, Z p → ∃ o, H0 p = some o) (has : argsS env avs = some as) (hn : (bIdx avs).Nodup) :
    ∃ Zc : SetA, RepEnv K Zc as (xs.map some) H ∧ ∀ {Zc' : SetA} {as' : List Sl} {H' : Hp} , Post K Zc as (xs.map some) H Zc' as' (xs.map some) H' → as'.length = as.length → (∀ (j : Nat) (o : Ob), as[j]? = some (Sl.own o) → ∃ o' : Ob, as'[j]? = some (Sl.own o')) →
      ∃ Z3 : SetA, Post K Z env σ H Z3 (back env avs as') σ H' ∧ Kp env (back env avs as') ∧ Same (hid Zc' as' (xs.map some) H') (hid Z3 (back env avs as') σ H') ∧ (∀ a, H a = none → Zc' a → Z3 a) := by
  obtain ⟨hl, hl2⟩ := argsS_len hv has
  -- what is lent is the caller's own
  have sub : ∀ p, SO as (xs.map some) p → SO env σ p := fun p ⟨j, o, h1, h2⟩ => by
    rcases argsS_get hv has h1 with ⟨t, x, _, e, _⟩ | ⟨i, o', x, e1, e2, e3, e4, e5⟩
    · cases e
    · rw [map_get, e4] at h2
      injection h2 with h2; subst h2
      injection e2 with e2; subst e2
      exact ⟨i, o, e3, e5⟩
  have hh : ∀ {q : Addr}, ((Z q ∨ (SO env σ q ∧ ¬ SO as (xs.map some) q)) ∨ SO as (xs.map some) q) ↔ (Z q ∨ SO env σ q) := fun {q} => by
    constructor
    · rintro ((h | h) | h)
      · exact .inl h
      · exact .inr h.1
      · exact .inr (sub q h)
    · rintro (h | h)
      · exact .inl (.inl h)
      · by_cases z : SO as (xs.map some) q
        · exact .inr z
        · exact .inl (.inr ⟨h, z⟩)
  have ehid : hid (fun q => Z q ∨ (SO env σ q ∧ ¬ SO as (xs.map some) q)) as (xs.map some) H = hid Z env σ H := by
    funext q
    unfold hid
    by_cases z : Z q ∨ SO env σ q
    · rw [if_pos z, if_pos (hh.mpr z)]
    · rw [if_neg z, if_neg fun w => z (hh.mp w)]
  have rC : RepEnv K (fun q => Z q ∨ (SO env σ q ∧ ¬ SO as (xs.map some) q)) as (xs.map some) H := by
    refine ⟨by rw [List.length_map, hl], fun j t h1 => ?_, fun j o h1 => ?_, fun j k o o' a h1 h2 h3 h4 => ?_, fun q hq => ?_⟩
    · rw [ehid]
      rcases argsS_get hv has h1 with ⟨t', x, _, e, e2, e3⟩ | ⟨i, o', x, e1, e2, _⟩
      · injection e with e; subst e
        exact ⟨x, map_get.mpr e2, e3 Z hz hd⟩
      · cases e2
    · rw [ehid]
      rcases argsS_get hv has h1 with ⟨t, x, _, e, _⟩ | ⟨i, o', x, e1, e2, e3, e4, e5⟩
      · cases e
      · injection e2 with e2; subst e2
        obtain ⟨a, q1, q2, q3⟩ := rE.own i o e3
        rw [e5] at q1; injection q1 with q1; injection q1 with q1; subst q1
        refine ⟨a, map_get.mpr e4, fun z => z.elim q2 fun z => z.2 ⟨j, o, h1, map_get.mpr e4⟩, q3⟩
    · rcases argsS_get hv has h1 with ⟨t, x, _, e, _⟩ | ⟨i, o1, x, e1, e2, e3, e4, e5⟩
      · cases e
      · rcases argsS_get hv has h2 with ⟨t, x, _, e, _⟩ | ⟨i', o1', x', f1, f2, f3, f4, f5⟩
        · cases e
        · rw [map_get, e4] at h3
          injection h3 with h3; subst h3
          rw [map_get, f4] at h4
          injection h4 with h4; subst h4
          have := rE.inj i i' o1 o1' a e3 f3 e5 f5
          subst this
          exact bIdx_inj hn e1 f1
    · rcases hq with hq | hq
      · exact rE.zd q hq
      · exact rE.so_dom hq.1
  refine ⟨_, rC, fun {Zc' as' H'} p hlen ho => ⟨fun q => Zc' q ∧ ¬ SO env σ q, ?_⟩⟩
  -- slot by slot behind the call
  have slot : ∀ (i : Nat) (s : Sl), (back env avs as')[i]? = some s → (i ∉ bIdx avs ∧ env[i]? = some s) ∨ ∃ (j : Nat) (o o' : Ob) (x : V), avs[j]? = some (AV.b i) ∧ env[i]? = some (Sl.own o) ∧ as[j]? = some (Sl.own o) ∧ s = Sl.own o' ∧ as'[j]? = some (Sl.own o') ∧ xs[j]? = some x ∧ σ[i]? = some (some x) := by
    intro i s hs
    by_cases q : i ∈ bIdx avs
    · obtain ⟨j, hj⟩ := mem_bIdx.mp q
      have hj' : j < as.length := by rw [hl, ← hl2]; exact (List.getElem?_eq_some_iff.mp hj).1
      rcases argsS_get hv has (List.getElem?_eq_getElem hj') with ⟨t, x, e1, _⟩ | ⟨i', o, x, e1, e2, e3, e4, e5⟩
      · rw [hj] at e1; cases e1
      · rw [hj] at e1; injection e1 with e1; injection e1 with e1; subst e1
        have hasj : as[j]? = some (.own o) := by rw [List.getElem?_eq_getElem hj', e2]
        obtain ⟨o', ho'⟩ := ho j o hasj
        have hi : i < env.length := (List.getElem?_eq_some_iff.mp e3).1
        rw [back_in hn hj ho' hi] at hs
        injection hs with hs
        exact .inr ⟨j, o, o', x, hj, e3, hasj, hs.symm, ho', e4, e5⟩
    · rw [back_out q] at hs
      exact .inl ⟨q, hs⟩
  have so3 : ∀ q, SO (back env avs as') σ q → SO env σ q := fun q ⟨i, o, h1, h2⟩ => by
    rcases slot i _ h1 with ⟨_, e⟩ | ⟨j, o1, o2, x, _, e, _, _, _, _, _⟩
    · exact ⟨i, o, e, h2⟩
    · exact ⟨i, o1, e, h2⟩
  have so' : ∀ q, SO as (xs.map some) q → SO as' (xs.map some) q := fun q ⟨j, o, h1, h2⟩ => by
    obtain ⟨o', e⟩ := ho j o h1
    exact ⟨j, o', e, h2⟩
  have smc : Same (hid Zc' as' (xs.map some) H') (hid (fun q => Zc' q ∧ ¬ SO env σ q) (back env avs as') σ H') := fun q u hq => by
    obtain ⟨h1, h2, h3⟩ := hid_some.mp hq
    refine hid_some.mpr ⟨fun z => h1 z.1, fun z => ?_, h3⟩
    have soe := so3 q z
    by_cases w : SO as (xs.map some) q
    · exact h2 (so' q w)
    · exact h1 (p.zs q (.inr ⟨soe, w⟩))
  have sme : Same (hid Z env σ H) (hid (fun q => Zc' q ∧ ¬ SO env σ q) (back env avs as') σ H') := fun q u hq => smc _ _ (p.same _ _ (by rw [ehid]; exact hq))
  refine ⟨⟨⟨by rw [back_len]; exact rE.len, fun i t e => ?_, fun i o e => ?_, fun i k o o' a e1 e2 e3 e4 => ?_, fun q hq => p.rep.zd q hq.1⟩, fun q u h1 h2 => p.fr q u h1 fun z => h2 (sub q z), p.dom, fun q h => .inl (so3 q h), fun q h => ⟨p.zs q (.inl h), rE.z_so h⟩, fun q h => ?_⟩, fun i f => ?_, smc, fun a ha hz => ⟨hz, fun so => ?_⟩⟩
  · rcases slot i _ e with ⟨_, e⟩ | ⟨j, o1, o2, x, _, _, _, e, _⟩
    · obtain ⟨x, h1, h2⟩ := rE.v i t e; exact ⟨x, h1, h2.mono sme⟩
    · cases e
  · rcases slot i _ e with ⟨hni, e⟩ | ⟨j, o1, o2, x, e1, e2, e3, e4, e5, e6, e7⟩
    · obtain ⟨a, h1, h2, h3⟩ := rE.own i o e
      refine ⟨a, h1, fun z => z.2 ⟨i, o, e, h1⟩, h3.mono sme fun u hu => p.fr a u hu fun ⟨j, w, q1, q2⟩ => ?_⟩
      rcases argsS_get hv has q1 with ⟨t, x, _, e', _⟩ | ⟨i', o1, x, f1, f2, f3, f4, f5⟩
      · cases e'
      · rw [map_get, f4] at q2
        injection q2 with q2; subst q2
        have := rE.inj i i' o o1 a e f3 h1 f5
        subst this
        exact hni (mem_bIdx.mpr ⟨j, f1⟩)
    · injection e4 with e4; subst e4
      obtain ⟨a, h1, h2, h3⟩ := p.rep.own j o e5
      rw [map_get, e6] at h1
      injection h1 with h1; subst h1
      exact ⟨a, e7, fun z => z.2 ⟨i, o1, e2, e7⟩, h3.mono smc fun _ e => e⟩
  · have bk : ∀ {i : Nat} {o : Ob}, (back env avs as')[i]? = some (.own o) → ∃ o' : Ob, env[i]? = some (Sl.own o') := fun {i o} e => by
      rcases slot i _ e with ⟨_, e⟩ | ⟨j, o1, o2, x, _, e, _⟩
      · exact ⟨o, e⟩
      · exact ⟨o1, e⟩
    obtain ⟨w1, q1⟩ := bk e1
    obtain ⟨w2, q2⟩ := bk e2
    exact rE.inj i k w1 w2 a q1 q2 e3 e4
  · rcases p.zn q h.1 with z | z
    · rcases z with z | z
      · exact .inl z
      · exact (h.2 z.1).elim
    · exact .inr z
  · unfold Full
    by_cases q : i ∈ bIdx avs
    · obtain ⟨j, hj⟩ := mem_bIdx.mp q
      have hj' : j < as.length := by rw [hl, ← hl2]; exact (List.getElem?_eq_some_iff.mp hj).1
      rcases argsS_get hv has (List.getElem?_eq_getElem hj') with ⟨t, x, e1, _⟩ | ⟨i', o, x, e1, e2, e3, e4, e5⟩
      · rw [hj] at e1; cases e1
      · rw [hj] at e1; injection e1 with e1; injection e1 with e1; subst e1
        obtain ⟨o', ho'⟩ := ho j o (by rw [List.getElem?_eq_getElem hj', e2])
        exact .inl ⟨o', back_in hn hj ho' (List.getElem?_eq_some_iff.mp e3).1⟩
    · rw [back_out q]; exact f
  · obtain ⟨u, w⟩ := rE.so_dom so
    rw [ha] at w; cases w
end
section
variable {g : Gk} {W : WB} {σ : St} {Z : SetA} {env : Sls} {H : Hp} {X : Cx} {D : Ends}
theorem rd_callA {cf : CF} {f : String} {Q : VK} {Z1 : SetA} {env1 env2 : Sls} {H1 : Hp} {avs : List AV} {xs : List V} (rE : RepEnv (kb g W) Z env σ H) (p1 : Post (kb g W) Z env σ H Z1 env1 σ H1) (k1 : Kp env env1) (p2 : Post (kb g W) Z1 env1 σ H1 Z1 env2 σ H1) (k2 : Kp env1 env2)
    (hv : AVR (kb g W) H Z1 env2 σ H1 avs xs) (c1 : Out g W (LE (kb g W) σ) σ Q Z env H (callA cf f avs env2)) : spF g (cf f) xs H1 Q (WE W σ) := by
  have p3 : Post (kb g W) Z env σ H Z env2 σ H1 := (p1.trans p2).lessZ
  unfold callA at c1
  cases has : argsS env2 avs with
  | none => rw [has] at c1; exact c1.elim
  | some as =>
    rw [has] at c1
    simp only at c1
    split at c1
    case isFalse => exact c1.elim
    rename_i hn
    obtain ⟨Zc, rC, bkf⟩ := call_view (H0 := H) p3.rep hv p1.zs rE.zd has hn
    refine ⟨Zc, as, W.β, rC, ?_⟩
    cases qf : cf f as with
    | no => rw [qf] at c1; exact c1.elim
    | er x as' =>
      rw [qf] at c1
      simp only at c1
      split at c1
      case isFalse => exact c1.elim
      rename_i hlk
      obtain ⟨l1', l2'⟩ := likeA_ok hlk
      intro cls d H' pc rx
      obtain ⟨Z3, p4, k4, sm, _⟩ := bkf pc l1' l2'
      have c2 : Out g W (LE (kb g W) σ) σ Q Z env H (.er x (back env2 avs as')) := c1
      exact c2 cls d H' (p3.trans p4).lessZ ((rx.mono sm).mono (hid_lessZ p4.zs))
    | rt r as' =>
      rw [qf] at c1
      cases r with
      | sl i => exact c1.elim
      | v t =>
        simp only at c1
        split at c1
        case isFalse => exact c1.elim
        rename_i hlk
        obtain ⟨l1', l2'⟩ := likeA_ok hlk
        intro x H' Zc' pc lr
        obtain ⟨Z3, p4, k4, sm, _⟩ := bkf pc l1' l2'
        have c2 : Out g W (LE (kb g W) σ) σ Q Z env H (.ok (.v t) (back env2 avs as')) := c1
        exact c2 x H' Z3 (p3.trans p4) ((k1.trans k2).trans k4) (Rp.mono sm lr)
      | fr o =>
        simp only at c1
        split at c1
        case isFalse => exact c1.elim
        rename_i hlk
        obtain ⟨l1', l2'⟩ := likeA_ok hlk
        intro x H' Zc' pc lr
        obtain ⟨Z3, p4, k4, sm, hz3⟩ := bkf pc l1' l2'
        obtain ⟨a, rfl, h1, h2, h3⟩ := lr
        have c2 : Out g W (LE (kb g W) σ) σ Q Z env H (.ok (.fr o) (back env2 avs as')) := c1
        exact c2 (.ref a) H' Z3 (p3.trans p4) ((k1.trans k2).trans k4) ⟨a, rfl, p3.none h1, hz3 a h1 h2, h3.mono sm fun _ e => e⟩
theorem rd_call {cf : CF} {f : String} {bs : List Bool} {A : M (List Vw)} {Q : VK} (h : tE g W (mCall cf f bs A) σ H Q) : tCallS (spF g (cf f)) (WE W) (tA g W A) σ H Q := by
  obtain ⟨Z, env, rE, h⟩ := h
  refine ⟨Z, env, rE, (Out.bind0 rE h).mono fun xs H1 ⟨Z1, env1, rs, p1, k1, l1, c1⟩ => ?_⟩
  simp only [M.bind] at c1
  cases q : argsT bs rs env1 with
  | er y e => exact (argsT_er q).elim
  | no => rw [q] at c1; exact c1.elim
  | ok avs env2 =>
    rw [q] at c1
    obtain ⟨p2, k2, hv⟩ := argsT_ok p1.rep l1 q
    exact rd_callA rE p1 k1 p2 k2 hv c1
theorem AVR.get {K : KB} {H0 : Hp} {Z1 : SetA} : ∀ {avs : List AV} {xs : List V} {k : Nat} {a : AV}, AVR K H0 Z1 env σ H avs xs → avs[k]? = some a → ∃ x, xs[k]? = some x ∧ ∀ {as ys}, AVR K H0 Z1 env σ H as ys → AVR K H0 Z1 env σ H (a :: as) (x :: ys)
  | _, _, k, a, .nil, h => by simp at h
  | _, _, 0, a, .t h1 r, h => by simp at h; subst h; exact ⟨_, rfl, fun q => .t h1 q⟩
  | _, _, 0, a, .b h1 r, h => by simp at h; subst h; exact ⟨_, rfl, fun q => .b h1 q⟩
  | _, _, k + 1, a, .t h1 r, h => by simpa using AVR.get (k := k) r (by simpa using h)
  | _, _, k + 1, a, .b h1 r, h => by simpa using AVR.get (k := k) r (by simpa using h)
theorem AVR.perm {K : KB} {H0 : Hp} {Z1 : SetA} {avs : List AV} {xs : List V} (h : AVR K H0 Z1 env σ H avs xs) : ∀ {perm : List Nat} {avs' : List AV}, permL avs perm = some avs' → ∃ xs', permL xs perm = some xs' ∧ AVR K H0 Z1 env σ H avs' xs'
  | [], _, e => by injection e with e; subst e; exact ⟨[], rfl, .nil⟩
  | k :: ks, _, e => by
    simp only [permL] at e
    cases q : avs[k]? with
    | none => rw [q] at e; cases e
    | some a =>
      rw [q] at e
      cases q2 : permL avs ks with
      | none => rw [q2] at e; cases e
      | some r =>
        rw [q2] at e; cases e
        obtain ⟨x, h1, h2⟩ := h.get q
        obtain ⟨xs', h3, h4⟩ := AVR.perm h (perm := ks) q2
        exact ⟨x :: xs', by simp only [permL]; rw [h1, h3]; rfl, h2 h4⟩
theorem rd_callK {cf : CF} {f : String} {bs : List Bool} {perm : List Nat} {A : M (List Vw)} {Q : VK} (h : tE g W (mCallK cf f bs perm A) σ H Q) : tA g W A σ H fun xs H1 => ∃ xs', permL xs perm = some xs' ∧ spF g (cf f) xs' H1 Q (WE W σ) := by
  obtain ⟨Z, env, rE, h⟩ := h
  refine ⟨Z, env, rE, (Out.bind0 rE h).mono fun xs H1 ⟨Z1, env1, rs, p1, k1, l1, c1⟩ => ?_⟩
  simp only [M.bind] at c1
  cases q : argsT bs rs env1 with
  | er y e => exact (argsT_er q).elim
  | no => rw [q] at c1; exact c1.elim
  | ok avs env2 =>
    rw [q] at c1
    simp only [R.bind] at c1
    obtain ⟨p2, k2, hv⟩ := argsT_ok p1.rep l1 q
    cases qp : permL avs perm with
    | none => rw [qp] at c1; exact c1.elim
    | some avs' =>
      rw [qp] at c1
      obtain ⟨xs', e1, e2⟩ := hv.perm qp
      exact ⟨xs', e1, rd_callA rE p1 k1 p2 k2 e2 c1⟩

/-! ### the table of defs -/
/-- how keywords bind -/
def KwOk (fd : FuncData) (ps ks : List String) (perm : List Nat) : Prop :=
  ∀ (s : Shared) (ws ws' : List Value), permL ws perm = some ws' → ws'.length = ps.length → BindsTo s fd ⟨[], (ks.map PySem.Str.ofString).zip ws⟩ ((ps.map PySem.Str.ofString).zip ws')
/-- what a module's def is: where it stands, how it is called -/
structure DefAt (K : PySem.W.Frag) (mg : PySem.Str → Option Value) (f : String) (c : Fn) (fa : Addr) (fd : FuncData) : Prop where
  mg : mg (PySem.Str.ofString f) = some (.ref fa)
  kp : PySem.W.keepIn K (.ref fa) = true
  bd : Binds K fd (c.ps.map PySem.Str.ofString) []
  kw : ∀ ks perm, (ks, perm) ∈ c.kws → KwOk fd c.ps ks perm
/-- all defs keep their promises at this level -/
structure Tb (Γ : String → Option Fn) (P : Program) (w : World) (K : PySem.W.Frag) (mg : PySem.Str → Option Value) (base : Heap) (n : Nat) : Prop where
  at_ : ∀ f c, Γ f = some c → ∃ fa fd, DefAt K mg f c fa fd ∧ FnOk P w K mg base (L2.CX P w) n fa fd (c.ps.map PySem.Str.ofString) (spF ⟨K, mg⟩ (callN Γ n f))
section
variable {Γ : String → Option Fn} {n : Nat} {f : String} {c : Fn} {e : Expr} {es : List Expr} {A : M (List Vw)} {p pos : Pos}
theorem spF_none {vs : List V} {H : Hp} {Q : VK} {E : XK} {F : Args → RF} (hF : ∀ as, F as = .no) : ¬ spF g F vs H Q E := fun ⟨Z, as, β, rE, h⟩ => by rw [hF] at h; exact h
/-- f(e, ..) -/
theorem xcall (T : Tb Γ X.prog X.w X.K X.mg X.base n) (hr : Room n X.A) (hx : ∀ σ, PassesAt (L2.CX X.prog X.w) X σ (WE W σ)) (hf : Γ f = some c) (bs : List Bool) (hg : Gl X (PySem.Str.ofString f)) (ha : XA X W (e :: es) A)
    (hdb : (PySem.Str.ofString f == ("__debug__" : PySem.Str)) = false := by decide) (he : starEach (e :: es) X.env = (false, eval e X.env) :: starEach es X.env := by rfl) (hpl : (backTo pos (starEach es X.env)).any (·.1) = false := by rfl) :
    XE X W (.Call (.Name (PySem.Str.ofString f) p) (e :: es) [] pos) (mCall (callN Γ n) f bs A) := by
  obtain ⟨fa, fd, dA, F⟩ := T.at_ f c hf
  exact (pe_callS F hr hg dA.mg dA.kp dA.bd hx ha hdb he hpl).weak fun σ H Q h => rd_call (g := X.g) h
theorem perm_vals {xs xs' : List V} {us : List Value} (h : Vals xs us) : ∀ {perm : List Nat} {xs' : List V}, permL xs perm = some xs' → ∃ us', permL us perm = some us' ∧ Vals xs' us'
  | [], _, e => by injection e with e; subst e; exact ⟨[], rfl, .nil⟩
  | k :: ks, _, e => by
    simp only [permL] at e
    cases q : xs[k]? with
    | none => rw [q] at e; cases e
    | some x =>
      rw [q] at e
      cases q2 : permL xs ks with
      | none => rw [q2] at e; cases e
      | some r =>
        rw [q2] at e; cases e
        obtain ⟨u, h1, h2⟩ := h.get q
        obtain ⟨us', h3, h4⟩ := perm_vals (xs' := xs') h (perm := ks) q2
        exact ⟨u :: us', by simp only [permL]; rw [h1, h3]; rfl, .cons h2 h4⟩
/-- keywords' values -/
abbrev XKw (X : Cx) (W : WB) (kws : List Keyword) (m : M (List Vw)) : Prop := PK X kws (tA X.g W m)
theorem xknil : XKw X W [] mNil := ⟨fun pos pins s σ H Q I ⟨Z, env, rE, h⟩ => pk_nil.run pos pins s σ H Q I (h [] H Z rE.post Kp.refl .nil)⟩
theorem xkcons {a : Expr} {nm : Option PySem.Str} {kpos : Pos} {kws : List Keyword} {A : M Vw} {B : M (List Vw)} (ha : XE X W a A) (hb : XKw X W kws B) : XKw X W (⟨nm, a, kpos⟩ :: kws) (mCons A B) :=
  ⟨fun pos pins s σ H Q I h => (pk_cons ha hb).run pos pins s σ H Q I (rd_cons (g := X.g) h)⟩
/-- f(k = e, ..) -/
theorem xcallk {kws : List Keyword} {ks : List String} {perm : List Nat} (T : Tb Γ X.prog X.w X.K X.mg X.base n) (hr : Room n X.A) (hx : ∀ σ, PassesAt (L2.CX X.prog X.w) X σ (WE W σ)) (hf : Γ f = some c) (bs : List Bool) (hk : (ks, perm) ∈ c.kws) (hg : Gl X (PySem.Str.ofString f))
    (hks : (backToKw pos (keywordEach kws X.env)).filterMap (·.1) = ks.map PySem.Str.ofString) (ha : XKw X W kws A) (hall : (backToKw pos (keywordEach kws X.env)).all (·.1.isSome) = true := by rfl)
    (hdb : (PySem.Str.ofString f == ("__debug__" : PySem.Str)) = false := by decide)
    (hpl : ((backTo pos (starEach [] X.env)).any (·.1) || (backToKw pos (keywordEach kws X.env)).any (·.1.isNone)) = false := by rfl) :
    XE X W (.Call (.Name (PySem.Str.ofString f) p) [] kws pos) (mCallK (callN Γ n) f bs perm A) := by
  obtain ⟨fa, fd, dA, F⟩ := T.at_ f c hf
  refine ⟨fun pins s σ H Q I h => ?_⟩
  refine wpAny_Call_Name_kw (ld_glob I hg dA.mg ?_ hdb)
  refine PySem.W.callWith_KW0 (h₀ := X.base) I.ok.mod.kin dA.kp hall (thn (ha.run pos pins s σ H _ I (rd_callK (g := X.g) h)) fun ws s2 ⟨zs, H2, I2, rz, xs', e1, q⟩ => ⟨I2.kIn, ?_⟩) hpl
  rw [hks]
  obtain ⟨ws', e2, rv⟩ := perm_vals (xs' := xs') rz e1
  have hl : ws'.length = (c.ps.map PySem.Str.ofString).length := by rw [← rv.length]; exact F.len _ _ _ _ q
  refine wpAny_call (codeAny_mono (F.run X.A X.stack s2 H2 ⟨[], (ks.map PySem.Str.ofString).zip ws⟩ ws' xs' Q (WE W σ) hr I2.env0 (dA.kw ks perm hk s2 ws ws' e2 (by simpa using hl)) rv q) fun r s' hq => ?_)
  cases r with
  | error e => exact hx σ pins H2 s2 e s' I2 hq
  | ok fl =>
    cases fl with
    | ret u => exact I2.after hq
    | next => exact False.elim hq
    | brk => exact False.elim hq
    | cont => exact False.elim hq
end

/-! ### a def keeps its promise -/
/-- what is wanted in the body of a def -/
def wOf (E : XK) (β : Nat → Addr) : WB := ⟨fun cls d _ H => E cls d H, β⟩
theorem fn_sound {P : Program} {w : World} {K : PySem.W.Frag} {mg : PySem.Str → Option Value} {base : Heap} {x qual : PySem.Str} {st : Stmt} {f : Addr} {fd : FuncData} {N ps : List PySem.Str} {c : Fn} {cf : CF} {k : Nat} (F : Fun K x qual st f fd) (S : FnScope N ps (defScope st))
    (hps : c.ps.length = ps.length) (hn : c.n = N.length)
    (hb : ∀ (cdv : Value) (A : Around) (outer : List Env) (s : Shared) (H : Hp) (E : XK) (β : Nat → Addr), Room k (cxOf (L2.CX P w) P w K mg base N qual (defScope st) f cdv A outer s H E).A →
      XSs (cxOf (L2.CX P w) P w K mg base N qual (defScope st) f cdv A outer s H E) (wOf E β) (defBody st) (c.body cf)) : FnOk P w K mg base (L2.CX P w) (k + 1) f fd ps (spF ⟨K, mg⟩ (runFn c cf)) := by
  have hpl : ps.length ≤ N.length := by have := congrArg List.length S.pre; rw [List.length_take] at this; omega
  refine F.okX S (fun vs H Q E h => ?_) fun cdv A outer s H vs Q E hr h => ?_
  · obtain ⟨Z, as, β, rE, h⟩ := h
    by_cases hl : as.length = c.ps.length
    · have hlen := rE.len
      rw [List.length_map] at hlen
      exact (hlen.symm.trans hl).trans hps
    · rw [show runFn c cf as = .no from if_neg hl] at h; exact h.elim
  · obtain ⟨Z, as, β, rE, h⟩ := h
    by_cases hl : as.length = c.ps.length
    · rw [show runFn c cf as = finish as (c.body cf (enter as c.n)) from if_pos hl] at h
      have hlen := rE.len
      rw [List.length_map] at hlen
      have hv : vs.length = ps.length := (hlen.symm.trans hl).trans hps
      refine ⟨_, hb cdv A outer s H E (adrs vs) hr, Z, enter as N.length, enter_rep (g := ⟨K, mg⟩) rE (by omega), ?_⟩
      refine finish_ok (g := ⟨K, mg⟩) rE (by omega) rfl (fun cls d σ H h => h) ?_
      rw [← hn]
      exact h
    · rw [show runFn c cf as = .no from if_neg hl] at h; exact h.elim
end
end Ev
end P_Ev11

section P_Ev12
set_option Elab.async false
set_option linter.all false
set_option maxRecDepth 100000
/-! Ev12: operators in place, and more operators. -/
namespace Ev
open PySem L2 PySem.Spec
open PyProof.Rows hiding St
set_option autoImplicit false
def iaddF : T → T → Option Vw
  | .int i, .int j => some (.v (.int (i + j)))
  | _, _ => none
section
variable {X : Cx} {K : KB}
theorem s_iadd : OpS K (rI0 fun i j => .int (i + j)) iaddF := s_int0 (fun i j w e => by injection e with e; subst e; exact fun _ _ _ => .sc fun _ => .int _) fun s t w e => by cases s <;> cases t <;> first | exact ⟨_, _, rfl, rfl⟩ | cases e
theorem in_addA : InOp X .Add (rI0 fun i j => .int (i + j)) := iop_add
theorem in_subA : InOp X .Sub (rI0 fun i j => .int (i - j)) := iop_sub
theorem ip_addA : PIp X .Add (rI0 fun i j => .int (i + j)) := iop_add
theorem ip_subA : PIp X .Sub (rI0 fun i j => .int (i - j)) := iop_sub
end
end Ev
end P_Ev12

section P_EvH
set_option Elab.async false
set_option linter.all false
set_option maxRecDepth 100000
/-! EvH: the head of a law and its end. -/
namespace Ev
open PySem L2 PySem.Spec
open PyProof.Rows hiding St
set_option autoImplicit false
/-- the module's name x is a built-in -/
def biB (x : String) (b : String) (K : PySem.W.Frag) : Bool := He.eqO (PySem.W.nsIn K mainGlobals (PySem.Str.ofString x)) (some (some (.builtin b)))
theorem biB_ok {K : PySem.W.Frag} {h : Heap} {mg : PySem.Str → Option Value} (X : K.In h) (G : h.Ns mainGlobals mg) {x b : String} (c : biB x b K = true) : mg (PySem.Str.ofString x) = some (.builtin b) := PySem.W.mg_of X G (He.eqO_ok c)
def hookV (n : Nat) (fa : List He.Fa) (fn : List He.DefD) (ex : PySem.W.Frag → Bool) : PySem.W.Hook where
  α := He.AlD × Bool
  obs := fun s => (He.obsDG n fa fn s.heap.get?, ex (He.frG s.heap.get? (He.asD s.heap.get? n)))
  val := fun _ => (He.valD fn, true)
  says := fun _ h => ∃ K : PySem.W.Frag, K.In h ∧ He.SaysD fa fn K ∧ ex K = true
  of := fun _ _ e => ⟨_, He.frG_in, congrArg Prod.fst e, congrArg Prod.snd e⟩
  keeps := fun _ _ _ ⟨K, hK, c⟩ k => ⟨K, PySem.W.Frag.In.keeps hK k, c⟩
def obV (n : Nat) (fa : List He.Fa) (fn : List He.DefD) (ex : PySem.W.Frag → Bool) (s : PySem.W.SharedT) : He.AlD × Bool := (He.obsDG n fa fn (HandSHeadRun.getT s), ex (He.frG (HandSHeadRun.getT s) (He.asD (HandSHeadRun.getT s) n)))
theorem obV_eq {n : Nat} {fa : List He.Fa} {fn : List He.DefD} {ex : PySem.W.Frag → Bool} (s : PySem.W.SharedT) : obV n fa fn ex s = (hookV n fa fn ex).obs s.abs := by
  have e : HandSHeadRun.getT s = s.abs.heap.get? := funext (HandSHeadRun.getT_eq s)
  unfold obV
  rw [e] <;> rfl
/-- a module's def -/
def dq (x : String) (st : Stmt) : He.DefD := ⟨(PySem.Str.ofString x, none), PySem.Str.ofString x, PySem.Str.ofString x, defArgs st, defBody st, defScope st, [], []⟩
theorem fun_ofD {K : PySem.W.Frag} {x qual : PySem.Str} {st : Stmt} {f : Addr} {fd : FuncData} (F : L2.FunD K x qual (defArgs st) (defBody st) (defScope st) [] [] f fd) : Fun K x qual st f fd := by
  obtain ⟨oc, od, dV, kV, doc, pm, an, cdv, ct, osl, rfl, lk, hcd, hD, hK⟩ := F.ex
  rcases hD with ⟨_, rfl⟩ | ⟨e, _⟩
  · exact ⟨⟨oc, od, kV, doc, pm, an, cdv, ct, osl, rfl, lk, hcd⟩, F.kp⟩
  · exact (e rfl).elim
theorem binds_of {K : PySem.W.Frag} {fd : FuncData} {ps : List PySem.Str} (h : ∀ (s : Shared) (us : List Value), us.length = ps.length → BindsTo s fd ⟨us, []⟩ (ps.zip us)) : Binds K fd ps [] := fun s us _ hl => by
  rw [List.append_nil] at hl ⊢
  exact h s us hl
/-- what the head tells of one def -/
structure DefH (K : PySem.W.Frag) (mg : PySem.Str → Option Value) (f : String) (c : Fn) (st : Stmt) (fa : Addr) (fd : FuncData) : Prop where
  at_ : DefAt K mg f c fa fd
  fn : Fun K (PySem.Str.ofString f) (PySem.Str.ofString f) st fa fd
  bd : ∀ (s : Shared) (us : List Value), us.length = (c.ps.map PySem.Str.ofString).length → BindsTo s fd ⟨us, []⟩ ((c.ps.map PySem.Str.ofString).zip us)
/-- how a def binds, whatever else its object holds -/
def BndOk (f : String) (st : Stmt) (ps : List String) : Prop := ∀ (kV doc pm : Value) (an : Option Addr) (cdv ct : Value) (us : List Value), us.length = (ps.map PySem.Str.ofString).length →
  bindArgs (PySem.W.fnOf (PySem.Str.ofString f) (PySem.Str.ofString f) (defArgs st) (defBody st) (defScope st) .none kV doc pm an cdv ct) ⟨us, []⟩ = pure ((ps.map PySem.Str.ofString).zip us)
def KwdOk (f : String) (st : Stmt) (ps : List String) (kws : List (List String × List Nat)) : Prop := ∀ (kV doc pm : Value) (an : Option Addr) (cdv ct : Value) (ks : List String) (perm : List Nat), (ks, perm) ∈ kws →
  KwOk (PySem.W.fnOf (PySem.Str.ofString f) (PySem.Str.ofString f) (defArgs st) (defBody st) (defScope st) .none kV doc pm an cdv ct) ps ks perm
theorem kwd0 {f : String} {st : Stmt} {ps : List String} : KwdOk f st ps [] := fun _ _ _ _ _ _ _ _ h => by cases h
theorem defH_of {K : PySem.W.Frag} {h : Heap} {mg : PySem.Str → Option Value} (X : K.In h) (G : h.Ns mainGlobals mg) {fa : List He.Fa} {fn : List He.DefD} (S : He.SaysD fa fn K) (f : String) (c : Fn) (st : Stmt) (i : Nat)
    (hi : fn[i]? = some (dq f st)) (hg : fa[i]? = some (.glo (PySem.Str.ofString f))) (hb : BndOk f st c.ps) (hk : KwdOk f st c.ps c.kws) : ∃ a fd, DefH K mg f c st a fd := by
  obtain ⟨fd, F⟩ := S.def_ i hi
  have g := He.glo_ok X G (S.fact i hg)
  have F' := fun_ofD (st := st) F
  obtain ⟨oc, od, dV, kV, doc, pm, an, cdv, ct, osl, rfl, lk, hcd, hD, hK⟩ := F.ex
  rcases hD with ⟨_, rfl⟩ | ⟨e, _⟩
  · have b : ∀ (s : Shared) (us : List Value), us.length = (c.ps.map PySem.Str.ofString).length → BindsTo s _ ⟨us, []⟩ ((c.ps.map PySem.Str.ofString).zip us) := fun s us hl => .of_eq (hb kV doc pm an cdv ct us hl)
    exact ⟨_, _, ⟨g, F.kp, binds_of b, hk kV doc pm an cdv ct⟩, F', b⟩
  · exact (e rfl).elim
section
variable {Γ : String → Option Fn} {P : Program} {w : World} {K : PySem.W.Frag} {mg : PySem.Str → Option Value} {base : Heap}
theorem tb_all (at_ : ∀ f c, Γ f = some c → ∃ fa fd, DefAt K mg f c fa fd ∧ ∀ n, Tb Γ P w K mg base n → FnOk P w K mg base (L2.CX P w) (n + 1) fa fd (c.ps.map PySem.Str.ofString) (spF ⟨K, mg⟩ (runFn c (callN Γ n)))) : ∀ n, Tb Γ P w K mg base n
  | 0 => ⟨fun f c h => by
    obtain ⟨fa, fd, d, _⟩ := at_ f c h
    exact ⟨fa, fd, d, ⟨fun vs H Q E q => (spF_none (fun _ => rfl) q).elim, fun _ _ _ _ _ _ _ _ _ _ _ _ _ q => (spF_none (fun _ => rfl) q).elim⟩⟩⟩
  | n + 1 => ⟨fun f c h => by
    obtain ⟨fa, fd, d, k⟩ := at_ f c h
    refine ⟨fa, fd, d, ?_⟩
    have e : callN Γ (n + 1) f = runFn c (callN Γ n) := by
      funext as
      show (match Γ f with | some c => runFn c (callN Γ n) as | none => .no) = _
      rw [h]
    rw [e]
    exact k n (tb_all at_ n)⟩
end
theorem rpL_ints {K : PySem.W.Frag} {H : Hp} : ∀ ns : List Int, RpL K H (ns.map V.int) (ns.map T.int)
  | [] => .nil
  | n :: r => .cons (.int n) (rpL_ints r)
/-- what a law must be shown to answer -/
def LawSays (Γ : String → Option Fn) (N : Nat) : Prop := ∀ ns : List Int, ns.length ≤ 63 → (∀ z ∈ ns, Builtin.Int.intBits z ≤ 1048576) → ∃ as, callN Γ N "law" [.v (.ro (ns.map .int))] = .rt (.v (.bool true)) as
theorem callN_at {Γ : String → Option Fn} {n : Nat} {f : String} {c : Fn} (h : Γ f = some c) : callN Γ (n + 1) f = runFn c (callN Γ n) := by
  funext as
  show (match Γ f with | some c => runFn c (callN Γ n) as | none => .no) = _
  rw [h]
theorem walkV {l : PySem.W.OpenLaw} {n N : Nat} {q : Program} {loose : List PySem.Str} {XP : (PySem.Str → Option Value) → Heap → Prop} {d : DefRec} {fa : List He.Fa} {fn : List He.DefD} {ex : PySem.W.Frag → Bool} {Γ : String → Option Fn} {c : Fn} {st : Stmt} {x : String}
    (hn : l.most = some 63) (hdf : d.params.defaults = []) (hr : Room (N + 1) callerA) (hd : d.name = PySem.Str.ofString "law") (hc : Γ "law" = some c) (hps : c.ps = [x]) (math : LawSays Γ (N + 1))
    (F : ∀ (w : World) (mg : PySem.Str → Option Value) (h : Heap) (K : PySem.W.Frag), K.In h → h.Ns mainGlobals mg → He.SaysD fa fn K → ex K = true → ∃ a fd, DefH K mg "law" c st a fd ∧ ∀ base : Heap, FnOk l.prog w K mg base (L2.CX l.prog w) (N + 1) a fd (c.ps.map PySem.Str.ofString) (spF ⟨K, mg⟩ (runFn c (callN Γ N)))) :
    PySem.W.WalkO q loose XP (hookV n fa fn ex).says l.row.toRowW d [] (fun f vs => PySem.call f vs) := by
  refine Att.attach_callB hn hdf fun w s₀ s₁ mg mb fa' o pm cd doc a vs ns G Y ho hd' hcd hmg hobj hints hlen hbits hg => ?_
  obtain ⟨K, KX, S, e⟩ := Y
  obtain ⟨a1, fd1, D1, k⟩ := F w mg _ K KX G.T.g S e
  rw [hd] at hmg
  have ps : c.ps.map PySem.Str.ofString = [PySem.Str.ofString x] := by rw [hps]; rfl
  have e1 := D1.at_.mg.symm.trans hmg
  cases e1
  rw [ps] at k
  exact law_call (sp := spF ⟨K, mg⟩ (runFn c (callN Γ N))) KX G.T.g G.T.b G.T.builtins G.T.nolimit hg hobj hints (Nat.le_trans hlen (by decide)) hr (fun base _ _ => k base) (fun s u => by
    have := D1.bd s [u] (by rw [ps]; rfl)
    rw [ps] at this
    exact this) (fun H hO hS => by
    obtain ⟨as, e⟩ := math ns hlen hbits
    rw [callN_at hc] at e
    refine ⟨fun _ => False, [.v (.ro (ns.map .int))], fun _ => 0, ?_, ?_⟩
    · have so : ∀ p, ¬ SO [Sl.v (.ro (ns.map T.int))] [some (V.ref a)] p := by
        rintro p ⟨i, o, h, _⟩
        cases i with
        | zero => cases h
        | succ i => cases h
      have eh : hid (fun _ => False) [Sl.v (.ro (ns.map T.int))] [some (V.ref a)] H = H := by
        funext p
        unfold hid
        rw [if_neg]
        rintro (h | h)
        · exact h
        · exact so p h
      refine ⟨rfl, fun i t h => ?_, fun i o h => ?_, fun i j o o' b h _ => ?_, fun p h => h.elim⟩
      · cases i with
        | zero =>
          injection h with h
          injection h with h
          subst h
          refine ⟨_, rfl, ?_⟩
          show Rp K (hid (fun _ => False) [Sl.v (.ro (ns.map T.int))] [some (V.ref a)] H) _ _
          rw [eh]
          exact .ro hS (rpL_ints ns)
        | succ i => cases h
      · cases i with
        | zero => cases h
        | succ i => cases h
      · cases i with
        | zero => cases h
        | succ i => cases h
    · rw [e]
      intro x H' Z' p r
      have r1 : Rp K (hid Z' as ([V.ref a].map some) H') x (.bool true) := r
      cases r1
      rfl) fun H e s' => by
    rintro ⟨_, _, _, _, _, _, _, _, _, _, _, _, z⟩
    exact z
end Ev
end P_EvH

section P_EvL
set_option Elab.async false
set_option linter.all false
set_option maxRecDepth 100000
/-! EvL: laws of the evaluator on ints, tuples, and the laws' own urn. -/
namespace Ev
open PySem L2 PySem.Spec
open PyProof.Rows hiding St
set_option autoImplicit false
theorem eq_int (i j : Int) : eqF (.int i) (.int j) = some (.v (.bool (decide (i = j)))) := by
  simp [eqF, eqT, T.pyO, SeqAt.shaped, PyData.canLay0, PyData.depth, PyData.eqv]
  rfl
theorem eq_bool (i j : Bool) : eqF (.bool i) (.bool j) = some (.v (.bool (decide (i = j)))) := by
  simp [eqF, eqT, T.pyO, SeqAt.shaped, PyData.canLay0, PyData.depth, PyData.eqv]
  cases i <;> cases j <;> rfl
theorem ne_int (i j : Int) : neF (.int i) (.int j) = some (.v (.bool (!decide (i = j)))) := by
  simp [neF, eqT, T.pyO, SeqAt.shaped, PyData.canLay0, PyData.depth, PyData.eqv]
  rfl
theorem ne_bool (i j : Bool) : neF (.bool i) (.bool j) = some (.v (.bool (!decide (i = j)))) := by
  simp [neF, eqT, T.pyO, SeqAt.shaped, PyData.canLay0, PyData.depth, PyData.eqv]
  cases i <;> cases j <;> rfl
theorem eq_pair (a b c d : Int) : eqF (.tuple [.int a, .int b]) (.tuple [.int c, .int d]) = some (.v (.bool (decide (a = c ∧ b = d)))) := by
  simp [eqF, eqT, T.pyO, T.pyOs, SeqAt.shaped, PyData.canLay0, PyData.canLayAll0, PyData.depth, PyData.depthAll, PyData.eqv, PyData.eqvAll]
  rfl
open Builtin.Int in
theorem bits_of {i : Int} {k : Nat} (h : i.natAbs < 2 ^ k) : intBits i ≤ k := by
  unfold intBits
  split
  · exact Nat.zero_le _
  · rename_i hz
    have h0 : i.natAbs ≠ 0 := fun e => hz (by simp [Int.natAbs_eq_zero.mp e])
    exact (Nat.log2_lt h0).mpr h
open Builtin.Int in
theorem lt_of_bits {i : Int} {k : Nat} (h : intBits i ≤ k) : i.natAbs < 2 ^ k := by
  unfold intBits at h
  split at h
  · rename_i hz
    have e : i = 0 := by simpa using hz
    subst e
    exact Nat.two_pow_pos k
  · rename_i hz
    have h0 : i.natAbs ≠ 0 := fun e => hz (by simp [Int.natAbs_eq_zero.mp e])
    exact (Nat.log2_lt h0).mp h
/-- |i| < 2^k -/
def Bd (k : Nat) (i : Int) : Prop := i.natAbs < 2 ^ k
instance (k : Nat) (i : Int) : Decidable (Bd k i) := by unfold Bd; exact inferInstance
theorem Bd.mono {j k : Nat} {i : Int} (h : Bd j i) (l : j ≤ k) : Bd k i := Nat.lt_of_lt_of_le h (Nat.pow_le_pow_right (by decide) l)
theorem Bd.mul {j k : Nat} {x y : Int} (h : Bd j x) (g : Bd k y) : Bd (j + k) (x * y) := by
  unfold Bd at *
  rw [Int.natAbs_mul, Nat.pow_add]
  exact Nat.mul_lt_mul'' h g
theorem Bd.add {k : Nat} {x y : Int} (h : Bd k x) (g : Bd k y) : Bd (k + 1) (x + y) := by
  unfold Bd at *
  have := Int.natAbs_add_le x y
  rw [Nat.pow_succ]; omega
theorem Bd.neg {k : Nat} {x : Int} (h : Bd k x) : Bd k (-x) := by unfold Bd at *; rwa [Int.natAbs_neg]
theorem Bd.sub {k : Nat} {x y : Int} (h : Bd k x) (g : Bd k y) : Bd (k + 1) (x - y) := by
  rw [Int.sub_eq_add_neg]; exact h.add g.neg
theorem Bd.of_le {k : Nat} {x y : Int} (h : Bd k y) (l : x.natAbs ≤ y.natAbs) : Bd k x := Nat.lt_of_le_of_lt l h
theorem mul_ok {i j : Int} {k l : Nat} (h : Bd k i) (g : Bd l j) (hk : k + l ≤ 134217728 := by decide) : mulF (.int i) (.int j) = some (.v (.int (i * j))) := by
  have h1 := bits_of h
  have h2 := bits_of g
  exact if_pos (by unfold MulOk; omega)
theorem fdiv_ok {i j : Int} {k : Nat} (h0 : j ≠ 0) (h : Bd k j) (hk : k ≤ 9000 := by decide) : fdivF (.int i) (.int j) = some (.v (.int (i.fdiv j))) :=
  if_pos ⟨h0, Nat.lt_of_lt_of_le ((Nat.log2_lt (fun e => h0 (Int.natAbs_eq_zero.mp e))).mpr h) hk⟩
theorem mod_ok {i j : Int} (h0 : j ≠ 0) : modF (.int i) (.int j) = some (.v (.int (i.fmod j))) := if_pos h0
theorem ten18 : powF (.int 10) (.int 18) = some (.v (.int 1000000000000000000)) := by
  show (if (0 : Int) ≤ 18 ∧ (18 : Int) ≤ 1000000 ∧ (10 : Int).natAbs < 2 ^ 64 then some (Vw.v (T.int ((10 : Int) ^ 18))) else none) = _
  rw [if_pos (by decide)]
  rfl
theorem ten15 : powF (.int 10) (.int 15) = some (.v (.int 1000000000000000)) := by
  show (if (0 : Int) ≤ 15 ∧ (15 : Int) ≤ 1000000 ∧ (10 : Int).natAbs < 2 ^ 64 then some (Vw.v (T.int ((10 : Int) ^ 15))) else none) = _
  rw [if_pos (by decide)]
  rfl

/-! ### the urn -/
structure Urn where
  cells : List Int
  at_ : Int
  deep : Int
  mix : Int
  turn : Int
def Urn.ob (u : Urn) : Ob := .dct [(.inr (PySem.Str.ofString "cells"), .list (u.cells.map .int)), (.inr (PySem.Str.ofString "at"), .int u.at_), (.inr (PySem.Str.ofString "deep"), .int u.deep), (.inr (PySem.Str.ofString "mix"), .int u.mix), (.inr (PySem.Str.ofString "turn"), .int u.turn)]
section
variable (u : Urn) (x : Int)
theorem Urn.g_cells : dgetF u.ob.data (.str (PySem.Str.ofString "cells")) = some (.v (.list (u.cells.map .int))) := by
  unfold Urn.ob Ob.data dgetF; rfl
theorem Urn.g_at : dgetF u.ob.data (.str (PySem.Str.ofString "at")) = some (.v (.int u.at_)) := id rfl
theorem Urn.g_deep : dgetF u.ob.data (.str (PySem.Str.ofString "deep")) = some (.v (.int u.deep)) := id rfl
theorem Urn.g_mix : dgetF u.ob.data (.str (PySem.Str.ofString "mix")) = some (.v (.int u.mix)) := id rfl
theorem Urn.g_turn : dgetF u.ob.data (.str (PySem.Str.ofString "turn")) = some (.v (.int u.turn)) := id rfl
theorem Urn.d_at : getD1 (.str (PySem.Str.ofString "at")) u.ob = some (.int u.at_) := id rfl
theorem Urn.d_turn : getD1 (.str (PySem.Str.ofString "turn")) u.ob = some (.int u.turn) := id rfl
theorem Urn.p_at : putDF (.str (PySem.Str.ofString "at")) (.int x) u.ob = some { u with at_ := x }.ob := id rfl
theorem Urn.p_deep : putDF (.str (PySem.Str.ofString "deep")) (.int x) u.ob = some { u with deep := x }.ob := id rfl
theorem Urn.p_mix : putDF (.str (PySem.Str.ofString "mix")) (.int x) u.ob = some { u with mix := x }.ob := id rfl
theorem Urn.p_turn : putDF (.str (PySem.Str.ofString "turn")) (.int x) u.ob = some { u with turn := x }.ob := id rfl
theorem Urn.st : strip u.ob = u.ob := id rfl
theorem Urn.rt (o : Ob) : retag u.ob o = o := id rfl
theorem Urn.lg {α : Type} (f : Ob → Option α) : liftG f u.ob = f u.ob := id rfl
theorem Urn.lo (f : Ob → Option Ob) : liftO f u.ob = f u.ob := id rfl
theorem Urn.ty : obT u.ob = "dict" := id rfl
end
theorem ltl0 : (0 < PySem.sizeLine) = True := eq_true (by decide)
theorem ltl1 : (1 < PySem.sizeLine) = True := eq_true (by decide)
theorem ltl2 : (2 < PySem.sizeLine) = True := eq_true (by decide)
theorem ltl3 : (3 < PySem.sizeLine) = True := eq_true (by decide)
theorem ltl4 : (4 < PySem.sizeLine) = True := eq_true (by decide)
theorem ltl5 : (5 < PySem.sizeLine) = True := eq_true (by decide)
theorem ltl6 : (6 < PySem.sizeLine) = True := eq_true (by decide)
theorem ltl7 : (7 < PySem.sizeLine) = True := eq_true (by decide)
theorem ltl8 : (8 < PySem.sizeLine) = True := eq_true (by decide)
theorem ltl9 : (9 < PySem.sizeLine) = True := eq_true (by decide)
theorem ltl10 : (10 < PySem.sizeLine) = True := eq_true (by decide)
theorem ltl11 : (11 < PySem.sizeLine) = True := eq_true (by decide)
theorem ltl12 : (12 < PySem.sizeLine) = True := eq_true (by decide)
theorem ltl13 : (13 < PySem.sizeLine) = True := eq_true (by decide)
theorem ltl14 : (14 < PySem.sizeLine) = True := eq_true (by decide)
theorem ltl15 : (15 < PySem.sizeLine) = True := eq_true (by decide)
theorem ltl16 : (16 < PySem.sizeLine) = True := eq_true (by decide)
theorem line0 : (0 ≤ PySem.sizeLine) = True := eq_true (by decide)
theorem line1 : (1 ≤ PySem.sizeLine) = True := eq_true (by decide)
theorem line2 : (2 ≤ PySem.sizeLine) = True := eq_true (by decide)
theorem line3 : (3 ≤ PySem.sizeLine) = True := eq_true (by decide)
theorem line4 : (4 ≤ PySem.sizeLine) = True := eq_true (by decide)
theorem line5 : (5 ≤ PySem.sizeLine) = True := eq_true (by decide)
theorem line6 : (6 ≤ PySem.sizeLine) = True := eq_true (by decide)
theorem line7 : (7 ≤ PySem.sizeLine) = True := eq_true (by decide)
theorem line8 : (8 ≤ PySem.sizeLine) = True := eq_true (by decide)
theorem line9 : (9 ≤ PySem.sizeLine) = True := eq_true (by decide)
theorem line10 : (10 ≤ PySem.sizeLine) = True := eq_true (by decide)
theorem line11 : (11 ≤ PySem.sizeLine) = True := eq_true (by decide)
theorem line12 : (12 ≤ PySem.sizeLine) = True := eq_true (by decide)
theorem line13 : (13 ≤ PySem.sizeLine) = True := eq_true (by decide)
theorem line14 : (14 ≤ PySem.sizeLine) = True := eq_true (by decide)
theorem line15 : (15 ≤ PySem.sizeLine) = True := eq_true (by decide)
theorem line16 : (16 ≤ PySem.sizeLine) = True := eq_true (by decide)
/-! ### applied -/
section
variable {α β : Type} (e : Sls) (A B C : M Vw) (L : M (List Vw)) (P Q : M Bool) (S S' : MS) (f g : T → T → Option Vw) (i : Nat)
theorem at_bind (m : M α) (k : α → M β) : M.bind m k e = R.bind (m e) k := id rfl
theorem at_ok (a : α) (k : α → M β) : R.bind (.ok a e) k = k a e := id rfl
theorem at_er (x : Exc) (k : α → M β) : R.bind (.er x e) k = .er x e := id rfl
theorem at_no (k : α → M β) : R.bind .no k = .no := id rfl
theorem at_var : mVar i e = match e[i]? with | some (.own _) => .ok (.sl i) e | some (.v t) => .ok (.v t) e | _ => .no := id rfl
theorem at_k (t : T) : mK t e = .ok (.v t) e := id rfl
theorem at_op : mOp f A B e = (A e).bind fun a => B.bind fun b => (lk a).bind fun s => (lk b).bind fun t => opt (f s t) := id rfl
theorem at_un (f : T → Option Vw) : mUn f A e = (A e).bind fun a => (lk a).bind fun s => opt (f s) := id rfl
theorem at_lk (r : Vw) : lk r e = match look r e with | some t => .ok t e | none => .no := id rfl
theorem at_opt (o : Option α) : opt o e = match o with | some a => .ok a e | none => .no := id rfl
theorem at_nil : mNil e = .ok [] e := id rfl
theorem at_cons : mCons A L e = (A e).bind fun a => L.bind fun bs e => .ok (a :: bs) e := id rfl
theorem at_b (f : List T → Option Vw) : mB f L e = (L e).bind fun as => (lks as).bind fun ts => opt (f ts) := id rfl
theorem at_lks0 : lks [] e = .ok [] e := id rfl
theorem at_lks1 (r : Vw) (rs : List Vw) : lks (r :: rs) e = (lk r e).bind fun t => (lks rs).bind fun ts e => .ok (t :: ts) e := id rfl
theorem at_test : mTest A e = (A e).bind fun a => (lk a).bind fun t e => match t with | .bool b => .ok b e | _ => .no := id rfl
theorem at_toTs0 : toTs [] e = .ok [] e := id rfl
theorem at_toTs1 (r : Vw) (rs : List Vw) : toTs (r :: rs) e = (toT r e).bind fun t => (toTs rs).bind fun ts e => .ok (t :: ts) e := id rfl
theorem at_toTv (t : T) : toT (.v t) e = .ok t e := id rfl
theorem at_toTf (o : Ob) : toT (.fr o) e = .ok o.data e := id rfl
theorem at_toTl (i : Nat) : toT (.sl i) e = match e[i]? with | some (.own o) => .ok o.data (e.set i (.v o.data)) | some (.v t) => .ok t e | _ => .no := id rfl
theorem at_notT : mNotT P e = (P e).bind fun c e => .ok (!c) e := id rfl
theorem at_andT : mAndT P Q e = (P e).bind fun c => if c then Q else fun e => .ok false e := id rfl
theorem at_orT : mOrT P Q e = (P e).bind fun c => if c then (fun e => .ok true e) else Q := id rfl
theorem at_if : mIf P A B e = (P e).bind fun c => if c then A else B := id rfl
theorem at_andV : mAndV A B e = (A e).bind fun a => (lk a).bind fun s => match s with | .bool true => B | .bool false => fun e => .ok (.v (.bool false)) e | _ => fun _ => .no := id rfl
theorem at_orV : mOrV A B e = (A e).bind fun a => (lk a).bind fun s => match s with | .bool false => B | .bool true => fun e => .ok (.v (.bool true)) e | _ => fun _ => .no := id rfl
theorem at_chain : mChain f g A B C e = (A e).bind fun a => B.bind fun b => (lk a).bind fun s => (lk b).bind fun t => (opt (f s t)).bind fun w => (lk w).bind fun u => match u with
  | .bool true => C.bind fun c => (lk b).bind fun t' => (lk c).bind fun v => opt (g t' v)
  | .bool false => fun e => .ok (.v (.bool false)) e
  | _ => fun _ => .no := id rfl
theorem at_set : mSet i A e = (A e).bind fun r => (put i r).bind fun _ e => .ok .nx e := id rfl
theorem at_drop : mDrop A e = (A e).bind fun _ e => .ok .nx e := id rfl
theorem at_ret : mRet A e = (A e).bind fun r e => .ok (.rt r) e := id rfl
theorem at_pass : mPass e = .ok .nx e := id rfl
theorem at_brk : mBreak e = .ok .bk e := id rfl
theorem at_cnt : mCont e = .ok .ct e := id rfl
theorem at_ifS : mIfS P S S' e = (P e).bind fun c => if c then S else S' := id rfl
theorem at_seq : mSeq S S' e = (S e).bind fun f => match f with | .nx => S' | f => fun e => .ok f e := id rfl
theorem at_putv (t : T) : put i (.v t) e = if i < e.length then .ok () (e.set i (.v t)) else .no := id rfl
theorem at_putf (o : Ob) : put i (.fr o) e = if i < e.length then .ok () (e.set i (.own o)) else .no := id rfl
theorem at_tup : mTup L e = (L e).bind fun rs => (toTs rs).bind fun ts => if ts.length ≤ PySem.sizeLine then (fun e => .ok (.v (.tuple ts)) e) else fun _ => .no := id rfl
theorem at_lst : mLst L e = (L e).bind fun rs => (toTs rs).bind fun ts => if ts.length ≤ PySem.sizeLine then (fun e => .ok (.fr (.lst ts)) e) else fun _ => .no := id rfl
theorem at_call (cf : CF) (n : String) (bs : List Bool) : mCall cf n bs L e = (L e).bind fun rs => (argsT bs rs).bind fun avs => callA cf n avs := id rfl
theorem at_callK (cf : CF) (n : String) (bs : List Bool) (p : List Nat) : mCallK cf n bs p L e = (L e).bind fun rs => (argsT bs rs).bind fun avs => match permL avs p with | some avs' => callA cf n avs' | none => fun _ => .no := id rfl
theorem at_args0 : argsT [] [] e = .ok [] e := id rfl
theorem at_args1 (b : Bool) (bs : List Bool) (r : Vw) (rs : List Vw) : argsT (b :: bs) (r :: rs) e = (argT b r e).bind fun a => (argsT bs rs).bind fun as e => .ok (a :: as) e := id rfl
theorem at_argb : argT true (.sl i) e = .ok (.b i) e := id rfl
theorem at_argt (r : Vw) : argT false r e = (toT r e).bind fun t e => .ok (.t t) e := by cases r <;> rfl
theorem at_callA (cf : CF) (n : String) (avs : List AV) : callA cf n avs e = match argsS e avs with
  | none => .no
  | some as => if (bIdx avs).Nodup then (match cf n as with
    | .rt (.sl _) _ => .no
    | .rt r as' => if likeA as as' then .ok r (back e avs as') else .no
    | .er x as' => if likeA as as' then .er x (back e avs as') else .no
    | .no => .no) else .no := id rfl
theorem at_unp (b : T → M Unit) : mUnp A b e = (A e).bind fun r => (toT r).bind fun d => (b d).bind fun _ e => .ok .nx e := id rfl
theorem at_btup (n : Nat) (bs : List T → M Unit) (ds : List T) : bTup n bs (.tuple ds) e = if ds.length = n then bs ds e else .no := id rfl
theorem at_blst (n : Nat) (bs : List T → M Unit) (ds : List T) : bLst n bs (.list ds) e = if ds.length = n then bs ds e else .no := id rfl
theorem at_bnil : bNil [] e = .ok () e := id rfl
theorem at_bcons (b : T → M Unit) (bs : List T → M Unit) (d : T) (ds : List T) : bCons b bs (d :: ds) e = (b d e).bind fun _ => bs ds := id rfl
theorem at_bname (d : T) : bName i d e = if i < e.length then .ok () (e.set i (.v d)) else .no := id rfl
theorem at_isi (k : Ty) : mIsi k A e = (A e).bind fun a => (lk a).bind fun s => opt (isiF k s) := id rfl
theorem at_notV : mNotV A e = (A e).bind fun a => (lk a).bind fun s => opt (match s with | .bool b => some (.v (.bool (!b))) | _ => none) := id rfl
theorem at_par (is : List Nat) : mPar is L e = (L e).bind fun rs => (stabs rs).bind fun rs => (puts is rs).bind fun _ e => .ok .nx e := id rfl
theorem at_stabs0 : stabs [] e = .ok [] e := id rfl
theorem at_stabs1 (r : Vw) (rs : List Vw) : stabs (r :: rs) e = (stab r e).bind fun r => (stabs rs).bind fun rs e => .ok (r :: rs) e := id rfl
theorem at_stabv (t : T) : stab (.v t) e = .ok (.v t) e := id rfl
theorem at_stabf (o : Ob) : stab (.fr o) e = .ok (.fr o) e := id rfl
theorem at_puts0 : puts [] [] e = .ok () e := id rfl
theorem at_puts1 (is : List Nat) (r : Vw) (rs : List Vw) : puts (i :: is) (r :: rs) e = (put i r e).bind fun _ => puts is rs := id rfl
theorem at_daug : mDaug i A B f e = (chk i "dict" e).bind fun _ => A.bind fun ri => (lk ri).bind fun k => (getE i (liftG (getD1 k))).bind fun old => B.bind fun r => (lk r).bind fun t => (lk ri).bind fun k' => match f old t, decide (toKey k' = toKey k) with
    | some (.v u), true => setO i (putDF k u)
    | _, _ => fun _ => .no := id rfl
theorem at_store (Ty : String) (f : T → T → Ob → Option Ob) : mStore i Ty A B f e = (B e).bind fun r => (chk i Ty).bind fun _ => A.bind fun ri => (toT r).bind fun t => (lk ri).bind fun k => (modE i fun o => (liftO (f k t) o).map fun o' => (o', .none)).bind fun _ e => .ok .nx e := id rfl
theorem at_chk (Ty : String) : chk i Ty e = match e[i]? with | some (.own o) => if obT o = Ty then .ok () e else .no | _ => .no := id rfl
theorem at_getE (f : Ob → Option T) : getE i f e = match e[i]? with | some (.own o) => (match f o with | some t => .ok t e | none => .no) | _ => .no := id rfl
theorem at_setO (f : Ob → Option Ob) : setO i f e = (modE i (fun o => (liftO f o).map fun o' => (o', .none)) e).bind fun _ e => .ok .nx e := id rfl
theorem at_modE (f : Ob → Option (Ob × T)) : modE i f e = match e[i]? with | some (.own o) => (match f o with | some (o', t) => .ok (.v t) (e.set i (.own o')) | none => .no) | _ => .no := id rfl
theorem at_meth (Ty : String) (f : List T → Ob → Option (Ob × T)) : mMeth i Ty f L e = (chk i Ty e).bind fun _ => L.bind fun rs => (toTs rs).bind fun ts => modE i (lift (f ts)) := id rfl
theorem at_for (s : M (List T)) (b : T → M Unit) : mFor s b S e = (s e).bind fun ts => forL b S ts := id rfl
theorem at_sval : sVal A e = (A e).bind fun r => (toT r).bind fun t => opt (itemsOf t) := id rfl
theorem at_rng1 : sRng1 L e = (L e).bind fun rs => (lks rs).bind fun ts e => match ts with | [.int j] => if -(2 ^ 62) ≤ j ∧ j < 2 ^ 62 then .ok (rngTs 0 j.toNat) e else .no | _ => .no := id rfl
theorem at_sl (X Y : M (Option Int)) : mSl A X Y e = (A e).bind fun a => X.bind fun lo => Y.bind fun hi => (lk a).bind fun t => opt (slF t lo hi) := id rfl
theorem at_po0 : mPo none e = .ok none e := id rfl
theorem at_po1 : mPo (some A) e = (A e).bind fun a => (lk a).bind fun t e => match t with | .int i => .ok (some i) e | _ => .no := id rfl
theorem at_lc (s : M (List T)) (b : T → M Unit) (vs : List Nat) : mLc s b P A vs e = (s e).bind fun ts e => if clear e vs then lcL b P A vs [] ts e else .no := id rfl
theorem at_dct (ks : List L2.Key) : mDct ks L e = (L e).bind fun rs => (toTs rs).bind fun ts => if ts.length = ks.length ∧ ks.length ≤ 15 then (fun e => .ok (.fr (.dct (mergeT [] (ks.zip ts)))) e) else fun _ => .no := id rfl
end
/-! ### comprehensions, loops -/
section
variable (b : T → M Unit) (C : M Bool) (E : M Vw) (vs : List Nat) (acc : List T) (e : Sls) (S : MS)
theorem at_lc0 : lcL b C E vs acc [] e = .ok (.fr (.lst acc)) e := id rfl
theorem at_lc1 (t : T) (ts : List T) : lcL b C E vs acc (t :: ts) e = (nox (b t) e).bind fun _ => (nox C).bind fun c => if c then (nox E).bind fun r => (nox (toT r)).bind fun u e => if acc.length < PySem.sizeLine then lcL b C E vs (acc ++ [u]) ts (wipeE e vs) else .no
      else fun e => lcL b C E vs acc ts (wipeE e vs) := id rfl
theorem at_nox {α : Type} (m : M α) : nox m e = match m e with | .ok a e => .ok a e | _ => .no := id rfl
theorem at_yes : cYes e = .ok true e := id rfl
theorem at_for0 : forL b S [] e = .ok .nx e := id rfl
theorem at_for1 (t : T) (ts : List T) : forL b S (t :: ts) e = (b t e).bind fun _ => S.bind (afterTurn (forL b S ts)) := id rfl
theorem at_aft_nx : afterTurn S .nx e = S e := id rfl
theorem at_aft_ct : afterTurn S .ct e = S e := id rfl
theorem at_aft_bk : afterTurn S .bk e = .ok .nx e := id rfl
theorem at_aft_rt (r : Vw) : afterTurn S (.rt r) e = .ok (.rt r) e := id rfl
theorem at_wip0 : wipeE e [] = e := id rfl
theorem at_wip1 (v : Nat) (vs : List Nat) : wipeE e (v :: vs) = (wipeE e vs).set v .non := id rfl
end
theorem at_clear0 (e : Sls) : clear e [] = true := id rfl
theorem at_clear1 (e : Sls) (i : Nat) (vs : List Nat) : clear e (i :: vs) = ((match e[i]? with | some .non => true | _ => false) && clear e vs) := id rfl
theorem set_set {α : Type} (a b : α) : ∀ (l : List α) (i : Nat), (l.set i a).set i b = l.set i b
  | [], _ => rfl
  | _ :: _, 0 => rfl
  | x :: l, i + 1 => by
    show x :: (l.set i a).set i b = x :: l.set i b
    rw [set_set a b l i]
theorem set_self {α : Type} {a : α} : ∀ {l : List α} {i : Nat}, l[i]? = some a → l.set i a = l
  | [], _, h => by simp at h
  | x :: l, 0, h => by simp at h; subst h; rfl
  | x :: l, i + 1, h => by
    show x :: l.set i a = x :: l
    rw [set_self (by simpa using h)]
theorem lt_of_get {α : Type} {a : α} {l : List α} {i : Nat} (h : l[i]? = some a) : i < l.length := (List.getElem?_eq_some_iff.mp h).1
theorem lc_name {i : Nat} {E : M Vw} {env : Sls} (h : env[i]? = some .non) (f : T → T) : ∀ (ts acc : List T), (∀ t ∈ ts, E (env.set i (.v t)) = .ok (.v (f t)) (env.set i (.v t))) → acc.length + ts.length ≤ PySem.sizeLine → lcL (bName i) cYes E [i] acc ts env = .ok (.fr (.lst (acc ++ ts.map f))) env
  | [], acc, _, _ => by simp [lcL]
  | t :: ts, acc, hE, hl => by
    have h1 : bName i t env = .ok () (env.set i (.v t)) := if_pos (lt_of_get h)
    have h2 := hE t (List.mem_cons_self)
    rw [List.length_cons] at hl
    have h3 : acc.length < PySem.sizeLine := by omega
    have h4 : wipeE (env.set i (.v t)) [i] = env := by
      show (env.set i (.v t)).set i .non = env
      rw [set_set, set_self h]
    have ih := lc_name h f ts (acc ++ [f t]) (fun t' m => hE t' (List.mem_cons_of_mem _ m)) (by rw [List.length_append]; simp; omega)
    simp only [at_lc1, at_bind, at_nox, h1, at_ok, at_yes, if_true, h2, at_toTv, if_pos h3, h4, ih, List.map_cons, List.append_assoc, List.cons_append, List.nil_append]
theorem mem_rng {lo : Int} {n : Nat} {t : T} (h : t ∈ rngTs lo n) : ∃ k : Nat, k < n ∧ t = .int (lo + k) := by
  unfold rngTs at h
  obtain ⟨k, hk, e⟩ := List.mem_map.mp h
  exact ⟨k, List.mem_range.mp hk, e.symm⟩
theorem rng_len (lo : Int) (n : Nat) : (rngTs lo n).length = n := by simp [rngTs]
theorem for_inv {b : T → M Unit} {S : MS} {n : Nat} (P : Nat → Sls → Prop) (h : ∀ (i : Nat) (t : T) (e : Sls), i < n → P i e → ∃ e1, ((b t e).bind fun _ => S) = .ok .nx e1 ∧ P (i + 1) e1) : ∀ (ts : List T) (i : Nat) (e : Sls), i + ts.length ≤ n → P i e → ∃ e', forL b S ts e = .ok .nx e' ∧ P (i + ts.length) e'
  | [], i, e, _, p => ⟨e, rfl, p⟩
  | t :: ts, i, e, l, p => by
    rw [List.length_cons] at l
    obtain ⟨e1, h1, p1⟩ := h i t e (by omega) p
    obtain ⟨e2, h2, p2⟩ := for_inv P h ts (i + 1) e1 (by omega) p1
    refine ⟨e2, ?_, by rw [List.length_cons, ← Nat.add_assoc, Nat.add_right_comm]; exact p2⟩
    rw [at_for1]
    cases q : b t e with
    | no => rw [q] at h1; cases h1
    | er x y => rw [q] at h1; cases h1
    | ok a y =>
      rw [q] at h1
      show R.bind (S y) _ = _
      rw [show S y = .ok .nx e1 from h1]
      exact h2
end Ev
end P_EvL

noncomputable section P_Code_K00
set_option linter.all false
set_option maxRecDepth 100000
/-! The code of a T.py as terms of the layer Ev; printed by gen.py. -/
namespace K00
open Ev

def N_is_integer : List PySem.Str := [PySem.Str.ofString "value"]
def cd_is_integer (cf : CF) : MS :=
    (mRet (mAndV (mIsi .int (mVar 0)) (mNotV (mIsi .bool (mVar 0)))))
def fn_is_integer : Fn := { ps := ["value"], n := 1, body := cd_is_integer, kws := [] }
def N_made : List PySem.Str := [PySem.Str.ofString "top", PySem.Str.ofString "bottom", PySem.Str.ofString "common"]
def cd_made (cf : CF) : MS :=
    (mSeq (mSet 2 (mB gcdF (mCons (mVar 0) (mCons (mVar 1) mNil))))
    (mRet (mTup (mCons (mOp fdivF (mVar 0) (mVar 2)) (mCons (mOp fdivF (mVar 1) (mVar 2)) mNil)))))
def fn_made : Fn := { ps := ["top", "bottom"], n := 3, body := cd_made, kws := [] }
def N_plus : List PySem.Str := [PySem.Str.ofString "x", PySem.Str.ofString "y"]
def cd_plus (cf : CF) : MS :=
    (mRet (mCall cf "made" [false, false] (mCons (mOp addF (mOp mulF (mOp ixF (mVar 0) (mK (.int 0))) (mOp ixF (mVar 1) (mK (.int 1)))) (mOp mulF (mOp ixF (mVar 1) (mK (.int 0))) (mOp ixF (mVar 0) (mK (.int 1))))) (mCons (mOp mulF (mOp ixF (mVar 0) (mK (.int 1))) (mOp ixF (mVar 1) (mK (.int 1)))) mNil))))
def fn_plus : Fn := { ps := ["x", "y"], n := 2, body := cd_plus, kws := [] }
def N_scaled : List PySem.Str := [PySem.Str.ofString "x", PySem.Str.ofString "y"]
def cd_scaled (cf : CF) : MS :=
    (mRet (mCall cf "made" [false, false] (mCons (mOp mulF (mOp ixF (mVar 0) (mK (.int 0))) (mOp ixF (mVar 1) (mK (.int 0)))) (mCons (mOp mulF (mOp ixF (mVar 0) (mK (.int 1))) (mOp ixF (mVar 1) (mK (.int 1)))) mNil))))
def fn_scaled : Fn := { ps := ["x", "y"], n := 2, body := cd_scaled, kws := [] }
def N_is_less : List PySem.Str := [PySem.Str.ofString "x", PySem.Str.ofString "y"]
def cd_is_less (cf : CF) : MS :=
    (mRet (mOp ltF (mOp mulF (mOp ixF (mVar 0) (mK (.int 0))) (mOp ixF (mVar 1) (mK (.int 1)))) (mOp mulF (mOp ixF (mVar 1) (mK (.int 0))) (mOp ixF (mVar 0) (mK (.int 1))))))
def fn_is_less : Fn := { ps := ["x", "y"], n := 2, body := cd_is_less, kws := [] }
def N_whole_of : List PySem.Str := [PySem.Str.ofString "x"]
def cd_whole_of (cf : CF) : MS :=
    (mRet (mOp fdivF (mOp ixF (mVar 0) (mK (.int 0))) (mOp ixF (mVar 0) (mK (.int 1)))))
def fn_whole_of : Fn := { ps := ["x"], n := 1, body := cd_whole_of, kws := [] }
def N_is_fraction : List PySem.Str := [PySem.Str.ofString "value", PySem.Str.ofString "top", PySem.Str.ofString "bottom"]
def cd_is_fraction (cf : CF) : MS :=
    (mSeq (mIfS (mOrT (mNotT (mTest (mIsi .tuple (mVar 0)))) (mTest (mOp neF (mB lenF (mCons (mVar 0) mNil)) (mK (.int 2))))) (mRet (mK (.bool false))) mPass)
    (mSeq (mUnp (mVar 0) (bTup 2 (bCons (bName 1) (bCons (bName 2) bNil))))
    (mRet (mAndV (mCall cf "is_integer" [false] (mCons (mVar 1) mNil)) (mAndV (mCall cf "is_integer" [false] (mCons (mVar 2) mNil)) (mAndV (mOp geF (mVar 2) (mK (.int 1))) (mOp eqF (mB gcdF (mCons (mVar 1) (mCons (mVar 2) mNil))) (mK (.int 1)))))))))
def fn_is_fraction : Fn := { ps := ["value"], n := 3, body := cd_is_fraction, kws := [(["value"], [0])] }
def N_check_fraction : List PySem.Str := [PySem.Str.ofString "value"]
def cd_check_fraction (cf : CF) : MS :=
    (mIfS (mNotT (mTest (mCall cf "is_fraction" [false] (mCons (mVar 0) mNil)))) (fun _ => .no) mPass)
def fn_check_fraction : Fn := { ps := ["value"], n := 1, body := cd_check_fraction, kws := [] }
def N_fraction_of : List PySem.Str := [PySem.Str.ofString "top", PySem.Str.ofString "bottom"]
def cd_fraction_of (cf : CF) : MS :=
    (mSeq (mIfS (mNotT (mTest (mCall cf "is_integer" [false] (mCons (mVar 0) mNil)))) (fun _ => .no) mPass)
    (mSeq (mIfS (mOrT (mNotT (mTest (mCall cf "is_integer" [false] (mCons (mVar 1) mNil)))) (mTest (mOp eqF (mVar 1) (mK (.int 0))))) (fun _ => .no) mPass)
    (mSeq (mIfS (mTest (mOp ltF (mVar 1) (mK (.int 0)))) (mRet (mCall cf "made" [false, false] (mCons (mUn negF (mVar 0)) (mCons (mUn negF (mVar 1)) mNil)))) mPass)
    (mRet (mCall cf "made" [false, false] (mCons (mVar 0) (mCons (mVar 1) mNil)))))))
def fn_fraction_of : Fn := { ps := ["top", "bottom"], n := 2, body := cd_fraction_of, kws := [(["bottom", "top"], [1, 0])] }
def N_add : List PySem.Str := [PySem.Str.ofString "one", PySem.Str.ofString "other"]
def cd_add (cf : CF) : MS :=
    (mSeq (mDrop (mCall cf "check_fraction" [false] (mCons (mVar 0) mNil)))
    (mSeq (mDrop (mCall cf "check_fraction" [false] (mCons (mVar 1) mNil)))
    (mRet (mCall cf "plus" [false, false] (mCons (mVar 0) (mCons (mVar 1) mNil))))))
def fn_add : Fn := { ps := ["one", "other"], n := 2, body := cd_add, kws := [(["other", "one"], [1, 0])] }
def N_multiply : List PySem.Str := [PySem.Str.ofString "one", PySem.Str.ofString "other"]
def cd_multiply (cf : CF) : MS :=
    (mSeq (mDrop (mCall cf "check_fraction" [false] (mCons (mVar 0) mNil)))
    (mSeq (mDrop (mCall cf "check_fraction" [false] (mCons (mVar 1) mNil)))
    (mRet (mCall cf "scaled" [false, false] (mCons (mVar 0) (mCons (mVar 1) mNil))))))
def fn_multiply : Fn := { ps := ["one", "other"], n := 2, body := cd_multiply, kws := [(["other", "one"], [1, 0])] }
def N_compare : List PySem.Str := [PySem.Str.ofString "one", PySem.Str.ofString "other"]
def cd_compare (cf : CF) : MS :=
    (mSeq (mDrop (mCall cf "check_fraction" [false] (mCons (mVar 0) mNil)))
    (mSeq (mDrop (mCall cf "check_fraction" [false] (mCons (mVar 1) mNil)))
    (mSeq (mIfS (mTest (mOp eqF (mVar 0) (mVar 1))) (mRet (mK (.int 0))) mPass)
    (mRet (mIf (mTest (mCall cf "is_less" [false, false] (mCons (mVar 0) (mCons (mVar 1) mNil)))) (mUn negF (mK (.int 1))) (mK (.int 1)))))))
def fn_compare : Fn := { ps := ["one", "other"], n := 2, body := cd_compare, kws := [(["other", "one"], [1, 0])] }
def N_floor_of : List PySem.Str := [PySem.Str.ofString "x"]
def cd_floor_of (cf : CF) : MS :=
    (mSeq (mDrop (mCall cf "check_fraction" [false] (mCons (mVar 0) mNil)))
    (mRet (mCall cf "whole_of" [false] (mCons (mVar 0) mNil))))
def fn_floor_of : Fn := { ps := ["x"], n := 1, body := cd_floor_of, kws := [(["x"], [0])] }
def N__law_urn : List PySem.Str := [PySem.Str.ofString "script"]
def cd__law_urn (cf : CF) : MS :=
    (mRet (mDct [.inr "cells", .inr "at", .inr "deep", .inr "mix", .inr "turn"] (mCons (mB listF (mCons (mVar 0) mNil)) (mCons (mK (.int 0)) (mCons (mK (.int 0)) (mCons (mK (.int 41)) (mCons (mK (.int 0)) mNil)))))))
def fn__law_urn : Fn := { ps := ["script"], n := 1, body := cd__law_urn, kws := [] }
def N__law_pick : List PySem.Str := [PySem.Str.ofString "urn", PySem.Str.ofString "many", PySem.Str.ofString "cell", PySem.Str.ofString "found", PySem.Str.ofString "mixed"]
def cd__law_pick (cf : CF) : MS :=
    (mSeq (mIfS (mAndT (mTest (mOp eqF (mOp dgetF (mVar 0) (mK (.str "deep"))) (mK (.int 0)))) (mTest (mOp ltF (mOp dgetF (mVar 0) (mK (.str "at"))) (mB lenF (mCons (mOp dgetF (mVar 0) (mK (.str "cells"))) mNil))))) (mSeq (mSet 2 (mOp ixF (mOp dgetF (mVar 0) (mK (.str "cells"))) (mOp dgetF (mVar 0) (mK (.str "at")))))
    (mSeq (mDaug 0 (mK (.str "at")) (mK (.int 1)) iaddF)
    (mIfS (mTest (mOp geF (mVar 2) (mOp powF (mK (.int 10)) (mK (.int 18))))) (mStore 0 "dict" (mK (.str "deep")) (mOp subF (mVar 2) (mOp powF (mK (.int 10)) (mK (.int 18)))) putDF) (mStore 0 "dict" (mK (.str "mix")) (mOp modF (mB intF (mCons (mOp addF (mOp addF (mOp mulF (mOp dgetF (mVar 0) (mK (.str "mix"))) (mK (.int 37))) (mOp mulF (mVar 2) (mK (.int 11)))) (mK (.int 3))) mNil)) (mK (.int 4294967291))) putDF)))) mPass)
    (mSeq (mIfS (mTest (mOp gtF (mOp dgetF (mVar 0) (mK (.str "deep"))) (mK (.int 0)))) (mSeq (mSet 3 (mOp modF (mB intF (mCons (mOp dgetF (mVar 0) (mK (.str "deep"))) mNil)) (mVar 1)))
    (mSeq (mStore 0 "dict" (mK (.str "deep")) (mOp fdivF (mOp dgetF (mVar 0) (mK (.str "deep"))) (mVar 1)) putDF)
    (mRet (mVar 3)))) mPass)
    (mSeq (mDaug 0 (mK (.str "turn")) (mK (.int 1)) iaddF)
    (mSeq (mStore 0 "dict" (mK (.str "mix")) (mOp modF (mB intF (mCons (mOp addF (mOp mulF (mOp dgetF (mVar 0) (mK (.str "mix"))) (mK (.int 279470273))) (mOp mulF (mK (.int 15485863)) (mOp dgetF (mVar 0) (mK (.str "turn"))))) mNil)) (mK (.int 4294967291))) putDF)
    (mSeq (mSet 4 (mOp modF (mB intF (mCons (mOp addF (mOp fdivF (mOp mulF (mOp dgetF (mVar 0) (mK (.str "mix"))) (mOp dgetF (mVar 0) (mK (.str "mix")))) (mK (.int 1013))) (mOp dgetF (mVar 0) (mK (.str "mix")))) mNil)) (mK (.int 2147483629))))
    (mRet (mOp modF (mB intF (mCons (mOp fdivF (mVar 4) (mK (.int 7))) mNil)) (mVar 1))))))))
def fn__law_pick : Fn := { ps := ["urn", "many"], n := 5, body := cd__law_pick, kws := [] }
def N__law_same : List PySem.Str := [PySem.Str.ofString "told", PySem.Str.ofString "due", PySem.Str.ofString "at"]
def cd__law_same (cf : CF) : MS :=
    (mSeq (mIfS (mOrT (mTest (mOp isF (mVar 1) (mK .none))) (mTest (mIsi .bool (mVar 1)))) (mRet (mIf (mTest (mOp isF (mVar 1) (mK .none))) (mOp isF (mVar 0) (mK .none)) (mAndV (mIsi .bool (mVar 0)) (mOp eqF (mVar 0) (mVar 1))))) mPass)
    (mSeq (mIfS (mTest (mIsi .int (mVar 1))) (mRet (mAndV (mIsi .int (mVar 0)) (mAndV (mNotV (mIsi .bool (mVar 0))) (mOp eqF (mVar 0) (mVar 1))))) mPass)
    (mSeq (mIfS (mTest (mIsi .str (mVar 1))) (mRet (mAndV (mIsi .str (mVar 0)) (mOp eqF (mVar 0) (mVar 1)))) mPass)
    (mSeq (mIfS (mOrT (mTest (mOp neF (mIsi .tuple (mVar 0)) (mIsi .tuple (mVar 1)))) (mTest (mOp neF (mIsi .list (mVar 0)) (mIsi .list (mVar 1))))) (mRet (mK (.bool false))) mPass)
    (mRet (mAndV (mOp eqF (mB lenF (mCons (mVar 0) mNil)) (mB lenF (mCons (mVar 1) mNil))) (mB allF (mCons (mLc (sRng1 (mCons (mB lenF (mCons (mVar 1) mNil)) mNil)) (bName 2) cYes (mCall cf "_law_same" [false, false] (mCons (mOp ixF (mVar 0) (mVar 2)) (mCons (mOp ixF (mVar 1) (mVar 2)) mNil))) [2]) mNil))))))))
def fn__law_same : Fn := { ps := ["told", "due"], n := 3, body := cd__law_same, kws := [] }
def N__law_lowest : List PySem.Str := [PySem.Str.ofString "top", PySem.Str.ofString "bottom", PySem.Str.ofString "one", PySem.Str.ofString "other", PySem.Str.ofString "turn", PySem.Str.ofString "sign"]
def cd__law_lowest (cf : CF) : MS :=
    (mSeq (mPar [2, 3] (mCons (mB absF (mCons (mVar 0) mNil)) (mCons (mB absF (mCons (mVar 1) mNil)) mNil)))
    (mSeq (mFor (sRng1 (mCons (mK (.int 4000)) mNil)) (bName 4) (mSeq (mIfS (mTest (mOp eqF (mVar 3) (mK (.int 0)))) mBreak mPass)
    (mPar [2, 3] (mCons (mVar 3) (mCons (mOp modF (mB intF (mCons (mVar 2) mNil)) (mVar 3)) mNil)))))
    (mSeq (mSet 5 (mIf (mTest (mOp ltF (mVar 1) (mK (.int 0)))) (mUn negF (mK (.int 1))) (mK (.int 1))))
    (mRet (mTup (mCons (mOp fdivF (mOp mulF (mVar 5) (mVar 0)) (mVar 2)) (mCons (mOp fdivF (mOp mulF (mVar 5) (mVar 1)) (mVar 2)) mNil)))))))
def fn__law_lowest : Fn := { ps := ["top", "bottom"], n := 6, body := cd__law_lowest, kws := [] }
def N__law_integer : List PySem.Str := [PySem.Str.ofString "urn", PySem.Str.ofString "size"]
def cd__law_integer (cf : CF) : MS :=
    (mSeq (mSet 1 (mOp ixF (mLst (mCons (mK (.int 4)) (mCons (mK (.int 100)) (mCons (mK (.int 1000)) (mCons (mOp powF (mK (.int 10)) (mK (.int 15))) mNil))))) (mCall cf "_law_pick" [true, false] (mCons (mVar 0) (mCons (mK (.int 4)) mNil)))))
    (mRet (mOp subF (mCall cf "_law_pick" [true, false] (mCons (mVar 0) (mCons (mOp addF (mOp mulF (mK (.int 2)) (mVar 1)) (mK (.int 1))) mNil))) (mVar 1))))
def fn__law_integer : Fn := { ps := ["urn"], n := 2, body := cd__law_integer, kws := [] }
def N__law_two : List PySem.Str := [PySem.Str.ofString "urn", PySem.Str.ofString "a", PySem.Str.ofString "b", PySem.Str.ofString "c", PySem.Str.ofString "d", PySem.Str.ofString "way", PySem.Str.ofString "turn"]
def cd__law_two (cf : CF) : MS :=
    (mSeq (mUnp (mLc (sRng1 (mCons (mK (.int 4)) mNil)) (bName 6) cYes (mCall cf "_law_integer" [true] (mCons (mVar 0) mNil)) [6]) (bLst 4 (bCons (bName 1) (bCons (bName 2) (bCons (bName 3) (bCons (bName 4) bNil))))))
    (mSeq (mPar [2, 4] (mCons (mIf (mTest (mOp neF (mVar 2) (mK (.int 0)))) (mVar 2) (mK (.int 1))) (mCons (mIf (mTest (mOp neF (mVar 4) (mK (.int 0)))) (mVar 4) (mUn negF (mK (.int 3)))) mNil)))
    (mSeq (mSet 5 (mCall cf "_law_pick" [true, false] (mCons (mVar 0) (mCons (mK (.int 5)) mNil))))
    (mSeq (mIfS (mTest (mOp eqF (mVar 5) (mK (.int 0)))) (mPar [3, 4] (mCons (mOp mulF (mVar 1) (mK (.int 6))) (mCons (mOp mulF (mVar 2) (mK (.int 6))) mNil))) (mIfS (mTest (mOp eqF (mVar 5) (mK (.int 1)))) (mPar [3, 4] (mCons (mOp addF (mVar 1) (mK (.int 1))) (mCons (mVar 2) mNil))) mPass))
    (mRet (mTup (mCons (mVar 1) (mCons (mVar 2) (mCons (mVar 3) (mCons (mVar 4) mNil))))))))))
def fn__law_two : Fn := { ps := ["urn"], n := 7, body := cd__law_two, kws := [] }
def N_law : List PySem.Str := [PySem.Str.ofString "script", PySem.Str.ofString "urn", PySem.Str.ofString "turn", PySem.Str.ofString "a", PySem.Str.ofString "b", PySem.Str.ofString "c", PySem.Str.ofString "d", PySem.Str.ofString "x", PySem.Str.ofString "y", PySem.Str.ofString "plus_v", PySem.Str.ofString "product", PySem.Str.ofString "gap", PySem.Str.ofString "order", PySem.Str.ofString "whole", PySem.Str.ofString "wide", PySem.Str.ofString "bent", PySem.Str.ofString "told"]
def cd_law (cf : CF) : MS :=
    (mSeq (mSet 1 (mCall cf "_law_urn" [false] (mCons (mVar 0) mNil)))
    (mSeq (mFor (sRng1 (mCons (mK (.int 12)) mNil)) (bName 2) (mSeq (mUnp (mCall cf "_law_two" [true] (mCons (mVar 1) mNil)) (bTup 4 (bCons (bName 3) (bCons (bName 4) (bCons (bName 5) (bCons (bName 6) bNil))))))
    (mSeq (mPar [7, 8] (mCons (mCall cf "_law_lowest" [false, false] (mCons (mVar 3) (mCons (mVar 4) mNil))) (mCons (mCall cf "_law_lowest" [false, false] (mCons (mVar 5) (mCons (mVar 6) mNil))) mNil)))
    (mSeq (mIfS (mNotT (mTest (mCall cf "_law_same" [false, false] (mCons (mLst (mCons (mCall cf "fraction_of" [false, false] (mCons (mVar 3) (mCons (mVar 4) mNil))) (mCons (mCallK cf "fraction_of" [false, false] [1, 0] (mCons (mVar 6) (mCons (mVar 5) mNil))) mNil))) (mCons (mLst (mCons (mVar 7) (mCons (mVar 8) mNil))) mNil))))) (mRet (mK (.bool false))) mPass)
    (mSeq (mPar [9, 10] (mCons (mCall cf "_law_lowest" [false, false] (mCons (mOp addF (mOp mulF (mOp ixF (mVar 7) (mK (.int 0))) (mOp ixF (mVar 8) (mK (.int 1)))) (mOp mulF (mOp ixF (mVar 8) (mK (.int 0))) (mOp ixF (mVar 7) (mK (.int 1))))) (mCons (mOp mulF (mOp ixF (mVar 7) (mK (.int 1))) (mOp ixF (mVar 8) (mK (.int 1)))) mNil))) (mCons (mCall cf "_law_lowest" [false, false] (mCons (mOp mulF (mOp ixF (mVar 7) (mK (.int 0))) (mOp ixF (mVar 8) (mK (.int 0)))) (mCons (mOp mulF (mOp ixF (mVar 7) (mK (.int 1))) (mOp ixF (mVar 8) (mK (.int 1)))) mNil))) mNil)))
    (mSeq (mIfS (mNotT (mTest (mCall cf "_law_same" [false, false] (mCons (mLst (mCons (mCall cf "add" [false, false] (mCons (mVar 7) (mCons (mVar 8) mNil))) (mCons (mCallK cf "add" [false, false] [1, 0] (mCons (mVar 7) (mCons (mVar 8) mNil))) mNil))) (mCons (mLst (mCons (mVar 9) (mCons (mVar 9) mNil))) mNil))))) (mRet (mK (.bool false))) mPass)
    (mSeq (mIfS (mNotT (mTest (mCall cf "_law_same" [false, false] (mCons (mLst (mCons (mCall cf "multiply" [false, false] (mCons (mVar 7) (mCons (mVar 8) mNil))) (mCons (mCallK cf "multiply" [false, false] [1, 0] (mCons (mVar 7) (mCons (mVar 8) mNil))) mNil))) (mCons (mLst (mCons (mVar 10) (mCons (mVar 10) mNil))) mNil))))) (mRet (mK (.bool false))) mPass)
    (mSeq (mSet 11 (mOp subF (mOp mulF (mOp ixF (mVar 7) (mK (.int 0))) (mOp ixF (mVar 8) (mK (.int 1)))) (mOp mulF (mOp ixF (mVar 8) (mK (.int 0))) (mOp ixF (mVar 7) (mK (.int 1))))))
    (mSeq (mSet 12 (mIf (mTest (mOp ltF (mVar 11) (mK (.int 0)))) (mUn negF (mK (.int 1))) (mIf (mTest (mOp gtF (mVar 11) (mK (.int 0)))) (mK (.int 1)) (mK (.int 0)))))
    (mSeq (mIfS (mNotT (mTest (mCall cf "_law_same" [false, false] (mCons (mLst (mCons (mCall cf "compare" [false, false] (mCons (mVar 7) (mCons (mVar 8) mNil))) (mCons (mCallK cf "compare" [false, false] [1, 0] (mCons (mVar 7) (mCons (mVar 8) mNil))) (mCons (mCall cf "compare" [false, false] (mCons (mVar 7) (mCons (mVar 7) mNil))) mNil)))) (mCons (mLst (mCons (mVar 12) (mCons (mUn negF (mVar 12)) (mCons (mK (.int 0)) mNil)))) mNil))))) (mRet (mK (.bool false))) mPass)
    (mSeq (mSet 13 (mCall cf "floor_of" [false] (mCons (mVar 7) mNil)))
    (mSeq (mIfS (mOrT (mNotT (mTest (mIsi .int (mVar 13)))) (mOrT (mTest (mIsi .bool (mVar 13))) (mNotT (mTest (mChain leF ltF (mK (.int 0)) (mOp subF (mOp ixF (mVar 7) (mK (.int 0))) (mOp mulF (mVar 13) (mOp ixF (mVar 7) (mK (.int 1))))) (mOp ixF (mVar 7) (mK (.int 1)))))))) (mRet (mK (.bool false))) mPass)
    (mSeq (mIfS (mNotT (mTest (mCall cf "_law_same" [false, false] (mCons (mLst (mCons (mCallK cf "floor_of" [false] [0] (mCons (mVar 8) mNil)) (mCons (mCall cf "is_fraction" [false] (mCons (mVar 7) mNil)) (mCons (mCallK cf "is_fraction" [false] [0] (mCons (mVar 8) mNil)) mNil)))) (mCons (mLst (mCons (mOp fdivF (mOp ixF (mVar 8) (mK (.int 0))) (mOp ixF (mVar 8) (mK (.int 1)))) (mCons (mK (.bool true)) (mCons (mK (.bool true)) mNil)))) mNil))))) (mRet (mK (.bool false))) mPass)
    (mSeq (mSet 14 (mOp addF (mK (.int 2)) (mCall cf "_law_pick" [true, false] (mCons (mVar 1) (mCons (mK (.int 40)) mNil)))))
    (mSeq (mSet 15 (mLst (mCons (mTup (mCons (mOp mulF (mOp ixF (mVar 7) (mK (.int 0))) (mVar 14)) (mCons (mOp mulF (mOp ixF (mVar 7) (mK (.int 1))) (mVar 14)) mNil))) (mCons (mTup (mCons (mUn negF (mOp ixF (mVar 7) (mK (.int 0)))) (mCons (mUn negF (mOp ixF (mVar 7) (mK (.int 1)))) mNil))) (mCons (mTup (mCons (mOp ixF (mVar 7) (mK (.int 0))) (mCons (mK (.int 0)) mNil))) (mCons (mLst (mCons (mOp ixF (mVar 7) (mK (.int 0))) (mCons (mOp ixF (mVar 7) (mK (.int 1))) mNil))) (mCons (mOp addF (mVar 7) (mTup (mCons (mK (.int 1)) mNil))) (mCons (mSl (mVar 7) (mPo none) (mPo (some (mK (.int 1))))) (mCons (mTup (mCons (mVar 7) (mCons (mVar 8) mNil))) mNil)))))))))
    (mIfS (mNotT (mTest (mCall cf "_law_same" [false, false] (mCons (mLc (sVal (mVar 15)) (bName 16) cYes (mCall cf "is_fraction" [false] (mCons (mVar 16) mNil)) [16]) (mCons (mLc (sVal (mVar 15)) (bName 16) cYes (mK (.bool false)) [16]) mNil))))) (mRet (mK (.bool false))) mPass))))))))))))))))
    (mRet (mK (.bool true)))))
def fn_law : Fn := { ps := ["script"], n := 17, body := cd_law, kws := [] }
def Γ : String → Option Fn
  | "is_integer" => some fn_is_integer
  | "made" => some fn_made
  | "plus" => some fn_plus
  | "scaled" => some fn_scaled
  | "is_less" => some fn_is_less
  | "whole_of" => some fn_whole_of
  | "is_fraction" => some fn_is_fraction
  | "check_fraction" => some fn_check_fraction
  | "fraction_of" => some fn_fraction_of
  | "add" => some fn_add
  | "multiply" => some fn_multiply
  | "compare" => some fn_compare
  | "floor_of" => some fn_floor_of
  | "_law_urn" => some fn__law_urn
  | "_law_pick" => some fn__law_pick
  | "_law_same" => some fn__law_same
  | "_law_lowest" => some fn__law_lowest
  | "_law_integer" => some fn__law_integer
  | "_law_two" => some fn__law_two
  | "law" => some fn_law
  | _ => none
end K00
end P_Code_K00

section P_Walk_K00
set_option Elab.async false
set_option linter.all false
set_option maxRecDepth 100000
/-! The derivations of a T.py; printed by gen.py. -/
namespace K00
open PySem L2 PySem.Spec Ev
open PyProof.Rows hiding St
set_option autoImplicit false
def topS (i : Nat) : Stmt := PySem.Challenge.pw_wholeshapes_k00_fractions.main.body.getD i (.Pass ⟨0, 0, 0, 0⟩)
abbrev stm_is_integer : Stmt := topS 6
abbrev stm_made : Stmt := topS 8
abbrev stm_plus : Stmt := topS 9
abbrev stm_scaled : Stmt := topS 10
abbrev stm_is_less : Stmt := topS 11
abbrev stm_whole_of : Stmt := topS 12
abbrev stm_is_fraction : Stmt := topS 13
abbrev stm_check_fraction : Stmt := topS 14
abbrev stm_fraction_of : Stmt := topS 15
abbrev stm_add : Stmt := topS 16
abbrev stm_multiply : Stmt := topS 17
abbrev stm_compare : Stmt := topS 18
abbrev stm_floor_of : Stmt := topS 19
abbrev stm__law_urn : Stmt := topS 21
abbrev stm__law_pick : Stmt := topS 22
abbrev stm__law_same : Stmt := topS 23
abbrev stm__law_lowest : Stmt := topS 24
abbrev stm__law_integer : Stmt := topS 25
abbrev stm__law_two : Stmt := topS 26
abbrev stm_law : Stmt := topS 27
structure Bn (mg : PySem.Str → Option Value) : Prop where
  abs : mg "abs" = none
  all : mg "all" = none
  bool : mg "bool" = none
  gcd : mg "gcd" = some (.builtin "math.gcd")
  int : mg "int" = none
  isinstance : mg "isinstance" = none
  len : mg "len" = none
  list : mg "list" = none
  range : mg "range" = none
  str : mg "str" = none
  tuple : mg "tuple" = none
section
variable {P : Program} {w : World} {K : PySem.W.Frag} {mg : PySem.Str → Option Value} {base : Heap} {n : Nat}
theorem sc_is_integer : FnScope N_is_integer [PySem.Str.ofString "value"] (defScope stm_is_integer) := ⟨rfl, rfl, rfl, by decide +kernel, rfl, by decide +kernel, by decide +kernel⟩
theorem dv_is_integer (B : Bn mg) (T : Tb Γ P w K mg base n) {fa : Addr} {fd : FuncData} (F : Fun K (PySem.Str.ofString "is_integer") (PySem.Str.ofString "is_integer") stm_is_integer fa fd) : FnOk P w K mg base (L2.CX P w) (n + 1) fa fd [PySem.Str.ofString "value"] (spF ⟨K, mg⟩ (runFn fn_is_integer (callN Γ n))) :=
  fn_sound F sc_is_integer rfl rfl fun cdv A outer s H E β hr => by
    have hu := hu_of hr
    have nd := sc_is_integer.nd
    have tk : ∀ σ, PassesAt (L2.CX P w) (cxOf (L2.CX P w) P w K mg base N_is_integer (PySem.Str.ofString "is_integer") (defScope stm_is_integer) fa cdv A outer s H E) σ (WE (WB.w (wOf E β)) σ) := fun σ => passAt (takes_of rfl rfl rfl rfl) σ
    exact (xsone (xret (xand (xisi _ (k := .int) (xv _ _ 0) (by decide +kernel) rfl B.isinstance rfl B.int) (xone (xnot (xisi _ (k := .bool) (xv _ _ 0) (by decide +kernel) rfl B.isinstance rfl B.bool))))))
theorem sc_made : FnScope N_made [PySem.Str.ofString "top", PySem.Str.ofString "bottom"] (defScope stm_made) := ⟨rfl, rfl, rfl, by decide +kernel, rfl, by decide +kernel, by decide +kernel⟩
theorem dv_made (B : Bn mg) (T : Tb Γ P w K mg base n) {fa : Addr} {fd : FuncData} (F : Fun K (PySem.Str.ofString "made") (PySem.Str.ofString "made") stm_made fa fd) : FnOk P w K mg base (L2.CX P w) (n + 1) fa fd [PySem.Str.ofString "top", PySem.Str.ofString "bottom"] (spF ⟨K, mg⟩ (runFn fn_made (callN Γ n))) :=
  fn_sound F sc_made rfl rfl fun cdv A outer s H E β hr => by
    have hu := hu_of hr
    have nd := sc_made.nd
    have tk : ∀ σ, PassesAt (L2.CX P w) (cxOf (L2.CX P w) P w K mg base N_made (PySem.Str.ofString "made") (defScope stm_made) fa cdv A outer s H E) σ (WE (WB.w (wOf E β)) σ) := fun σ => passAt (takes_of rfl rfl rfl rfl) σ
    exact (xscons (xset (i := 2) nd rfl (.inl rfl) (xbm cr_gcd s_gcd rfl B.gcd (xcons (xv _ _ 0) (xcons (xv _ _ 1) xnil))))
      (xsone (xret (xtup (xcons (xop op_fdivX s_fdiv (xv _ _ 0) (xv _ _ 2)) (xcons (xop op_fdivX s_fdiv (xv _ _ 1) (xv _ _ 2)) xnil))))))
theorem sc_plus : FnScope N_plus [PySem.Str.ofString "x", PySem.Str.ofString "y"] (defScope stm_plus) := ⟨rfl, rfl, rfl, by decide +kernel, rfl, by decide +kernel, by decide +kernel⟩
theorem dv_plus (B : Bn mg) (T : Tb Γ P w K mg base n) {fa : Addr} {fd : FuncData} (F : Fun K (PySem.Str.ofString "plus") (PySem.Str.ofString "plus") stm_plus fa fd) : FnOk P w K mg base (L2.CX P w) (n + 1) fa fd [PySem.Str.ofString "x", PySem.Str.ofString "y"] (spF ⟨K, mg⟩ (runFn fn_plus (callN Γ n))) :=
  fn_sound F sc_plus rfl rfl fun cdv A outer s H E β hr => by
    have hu := hu_of hr
    have nd := sc_plus.nd
    have tk : ∀ σ, PassesAt (L2.CX P w) (cxOf (L2.CX P w) P w K mg base N_plus (PySem.Str.ofString "plus") (defScope stm_plus) fa cdv A outer s H E) σ (WE (WB.w (wOf E β)) σ) := fun σ => passAt (takes_of rfl rfl rfl rfl) σ
    exact (xsone (xret (xcall (f := "made") T hr tk rfl [false, false] rfl (xcons (xop op_addA s_add (xop op_mulA s_mul (xix _ (xv _ _ 0) xint (fun _ _ => rfl)) (xix _ (xv _ _ 1) xint (fun _ _ => rfl))) (xop op_mulA s_mul (xix _ (xv _ _ 1) xint (fun _ _ => rfl)) (xix _ (xv _ _ 0) xint (fun _ _ => rfl)))) (xcons (xop op_mulA s_mul (xix _ (xv _ _ 0) xint (fun _ _ => rfl)) (xix _ (xv _ _ 1) xint (fun _ _ => rfl))) xnil)))))
theorem sc_scaled : FnScope N_scaled [PySem.Str.ofString "x", PySem.Str.ofString "y"] (defScope stm_scaled) := ⟨rfl, rfl, rfl, by decide +kernel, rfl, by decide +kernel, by decide +kernel⟩
theorem dv_scaled (B : Bn mg) (T : Tb Γ P w K mg base n) {fa : Addr} {fd : FuncData} (F : Fun K (PySem.Str.ofString "scaled") (PySem.Str.ofString "scaled") stm_scaled fa fd) : FnOk P w K mg base (L2.CX P w) (n + 1) fa fd [PySem.Str.ofString "x", PySem.Str.ofString "y"] (spF ⟨K, mg⟩ (runFn fn_scaled (callN Γ n))) :=
  fn_sound F sc_scaled rfl rfl fun cdv A outer s H E β hr => by
    have hu := hu_of hr
    have nd := sc_scaled.nd
    have tk : ∀ σ, PassesAt (L2.CX P w) (cxOf (L2.CX P w) P w K mg base N_scaled (PySem.Str.ofString "scaled") (defScope stm_scaled) fa cdv A outer s H E) σ (WE (WB.w (wOf E β)) σ) := fun σ => passAt (takes_of rfl rfl rfl rfl) σ
    exact (xsone (xret (xcall (f := "made") T hr tk rfl [false, false] rfl (xcons (xop op_mulA s_mul (xix _ (xv _ _ 0) xint (fun _ _ => rfl)) (xix _ (xv _ _ 1) xint (fun _ _ => rfl))) (xcons (xop op_mulA s_mul (xix _ (xv _ _ 0) xint (fun _ _ => rfl)) (xix _ (xv _ _ 1) xint (fun _ _ => rfl))) xnil)))))
theorem sc_is_less : FnScope N_is_less [PySem.Str.ofString "x", PySem.Str.ofString "y"] (defScope stm_is_less) := ⟨rfl, rfl, rfl, by decide +kernel, rfl, by decide +kernel, by decide +kernel⟩
theorem dv_is_less (B : Bn mg) (T : Tb Γ P w K mg base n) {fa : Addr} {fd : FuncData} (F : Fun K (PySem.Str.ofString "is_less") (PySem.Str.ofString "is_less") stm_is_less fa fd) : FnOk P w K mg base (L2.CX P w) (n + 1) fa fd [PySem.Str.ofString "x", PySem.Str.ofString "y"] (spF ⟨K, mg⟩ (runFn fn_is_less (callN Γ n))) :=
  fn_sound F sc_is_less rfl rfl fun cdv A outer s H E β hr => by
    have hu := hu_of hr
    have nd := sc_is_less.nd
    have tk : ∀ σ, PassesAt (L2.CX P w) (cxOf (L2.CX P w) P w K mg base N_is_less (PySem.Str.ofString "is_less") (defScope stm_is_less) fa cdv A outer s H E) σ (WE (WB.w (wOf E β)) σ) := fun σ => passAt (takes_of rfl rfl rfl rfl) σ
    exact (xsone (xret (xcmp op_lt s_lt (xop op_mulA s_mul (xix _ (xv _ _ 0) xint (fun _ _ => rfl)) (xix _ (xv _ _ 1) xint (fun _ _ => rfl))) (xop op_mulA s_mul (xix _ (xv _ _ 1) xint (fun _ _ => rfl)) (xix _ (xv _ _ 0) xint (fun _ _ => rfl))) (nomark _))))
theorem sc_whole_of : FnScope N_whole_of [PySem.Str.ofString "x"] (defScope stm_whole_of) := ⟨rfl, rfl, rfl, by decide +kernel, rfl, by decide +kernel, by decide +kernel⟩
theorem dv_whole_of (B : Bn mg) (T : Tb Γ P w K mg base n) {fa : Addr} {fd : FuncData} (F : Fun K (PySem.Str.ofString "whole_of") (PySem.Str.ofString "whole_of") stm_whole_of fa fd) : FnOk P w K mg base (L2.CX P w) (n + 1) fa fd [PySem.Str.ofString "x"] (spF ⟨K, mg⟩ (runFn fn_whole_of (callN Γ n))) :=
  fn_sound F sc_whole_of rfl rfl fun cdv A outer s H E β hr => by
    have hu := hu_of hr
    have nd := sc_whole_of.nd
    have tk : ∀ σ, PassesAt (L2.CX P w) (cxOf (L2.CX P w) P w K mg base N_whole_of (PySem.Str.ofString "whole_of") (defScope stm_whole_of) fa cdv A outer s H E) σ (WE (WB.w (wOf E β)) σ) := fun σ => passAt (takes_of rfl rfl rfl rfl) σ
    exact (xsone (xret (xop op_fdivX s_fdiv (xix _ (xv _ _ 0) xint (fun _ _ => rfl)) (xix _ (xv _ _ 0) xint (fun _ _ => rfl)))))
theorem sc_is_fraction : FnScope N_is_fraction [PySem.Str.ofString "value"] (defScope stm_is_fraction) := ⟨rfl, rfl, rfl, by decide +kernel, rfl, by decide +kernel, by decide +kernel⟩
theorem dv_is_fraction (B : Bn mg) (T : Tb Γ P w K mg base n) {fa : Addr} {fd : FuncData} (F : Fun K (PySem.Str.ofString "is_fraction") (PySem.Str.ofString "is_fraction") stm_is_fraction fa fd) : FnOk P w K mg base (L2.CX P w) (n + 1) fa fd [PySem.Str.ofString "value"] (spF ⟨K, mg⟩ (runFn fn_is_fraction (callN Γ n))) :=
  fn_sound F sc_is_fraction rfl rfl fun cdv A outer s H E β hr => by
    have hu := hu_of hr
    have nd := sc_is_fraction.nd
    have tk : ∀ σ, PassesAt (L2.CX P w) (cxOf (L2.CX P w) P w K mg base N_is_fraction (PySem.Str.ofString "is_fraction") (defScope stm_is_fraction) fa cdv A outer s H E) σ (WE (WB.w (wOf E β)) σ) := fun σ => passAt (takes_of rfl rfl rfl rfl) σ
    exact (xscons (xifs (xwt (xwor (xtnot (xtval (xisi _ (k := .tuple) (xv _ _ 0) (by decide +kernel) rfl B.isinstance rfl B.tuple))) (xwor1 (xtcmp (op_neD hr.units) s_ne (xb call_lenA s_len rfl B.len (by decide +kernel) (xcons (xv _ _ 0) xnil)) xint (nomark _))))) (xsone (xret xbl)) xsnil)
      (xscons (xunp (xv _ _ 0) (gtup rfl (gcons (gname (i := 1) nd rfl (.inl rfl)) (gcons (gname (i := 2) nd rfl (.inl rfl)) gnil))))
      (xsone (xret (xand (xcall (f := "is_integer") T hr tk rfl [false] rfl (xcons (xv _ _ 1) xnil)) (xand (xcall (f := "is_integer") T hr tk rfl [false] rfl (xcons (xv _ _ 2) xnil)) (xand (xcmp op_ge s_ge (xv _ _ 2) xint (nomark _)) (xone (xcmp (op_eqD hr.units) s_eq (xbm cr_gcd s_gcd rfl B.gcd (xcons (xv _ _ 1) (xcons (xv _ _ 2) xnil))) xint (nomark _))))))))))
theorem sc_check_fraction : FnScope N_check_fraction [PySem.Str.ofString "value"] (defScope stm_check_fraction) := ⟨rfl, rfl, rfl, by decide +kernel, rfl, by decide +kernel, by decide +kernel⟩
theorem dv_check_fraction (B : Bn mg) (T : Tb Γ P w K mg base n) {fa : Addr} {fd : FuncData} (F : Fun K (PySem.Str.ofString "check_fraction") (PySem.Str.ofString "check_fraction") stm_check_fraction fa fd) : FnOk P w K mg base (L2.CX P w) (n + 1) fa fd [PySem.Str.ofString "value"] (spF ⟨K, mg⟩ (runFn fn_check_fraction (callN Γ n))) :=
  fn_sound F sc_check_fraction rfl rfl fun cdv A outer s H E β hr => by
    have hu := hu_of hr
    have nd := sc_check_fraction.nd
    have tk : ∀ σ, PassesAt (L2.CX P w) (cxOf (L2.CX P w) P w K mg base N_check_fraction (PySem.Str.ofString "check_fraction") (defScope stm_check_fraction) fa cdv A outer s H E) σ (WE (WB.w (wOf E β)) σ) := fun σ => passAt (takes_of rfl rfl rfl rfl) σ
    exact (xsone (xifs (xtnot (xtval (xcall (f := "is_fraction") T hr tk rfl [false] rfl (xcons (xv _ _ 0) xnil)))) (xsone xnever) xsnil))
theorem sc_fraction_of : FnScope N_fraction_of [PySem.Str.ofString "top", PySem.Str.ofString "bottom"] (defScope stm_fraction_of) := ⟨rfl, rfl, rfl, by decide +kernel, rfl, by decide +kernel, by decide +kernel⟩
theorem dv_fraction_of (B : Bn mg) (T : Tb Γ P w K mg base n) {fa : Addr} {fd : FuncData} (F : Fun K (PySem.Str.ofString "fraction_of") (PySem.Str.ofString "fraction_of") stm_fraction_of fa fd) : FnOk P w K mg base (L2.CX P w) (n + 1) fa fd [PySem.Str.ofString "top", PySem.Str.ofString "bottom"] (spF ⟨K, mg⟩ (runFn fn_fraction_of (callN Γ n))) :=
  fn_sound F sc_fraction_of rfl rfl fun cdv A outer s H E β hr => by
    have hu := hu_of hr
    have nd := sc_fraction_of.nd
    have tk : ∀ σ, PassesAt (L2.CX P w) (cxOf (L2.CX P w) P w K mg base N_fraction_of (PySem.Str.ofString "fraction_of") (defScope stm_fraction_of) fa cdv A outer s H E) σ (WE (WB.w (wOf E β)) σ) := fun σ => passAt (takes_of rfl rfl rfl rfl) σ
    exact (xscons (xifs (xtnot (xtval (xcall (f := "is_integer") T hr tk rfl [false] rfl (xcons (xv _ _ 0) xnil)))) (xsone xnever) xsnil)
      (xscons (xifs (xwt (xwor (xtnot (xtval (xcall (f := "is_integer") T hr tk rfl [false] rfl (xcons (xv _ _ 1) xnil)))) (xwor1 (xtcmp (op_eqD hr.units) s_eq (xv _ _ 1) xint (nomark _))))) (xsone xnever) xsnil)
      (xscons (xifs (xtcmp op_lt s_lt (xv _ _ 1) xint (nomark _)) (xsone (xret (xcall (f := "made") T hr tk rfl [false, false] rfl (xcons (xun un_neg s_neg (xv _ _ 0)) (xcons (xun un_neg s_neg (xv _ _ 1)) xnil))))) xsnil)
      (xsone (xret (xcall (f := "made") T hr tk rfl [false, false] rfl (xcons (xv _ _ 0) (xcons (xv _ _ 1) xnil))))))))
theorem sc_add : FnScope N_add [PySem.Str.ofString "one", PySem.Str.ofString "other"] (defScope stm_add) := ⟨rfl, rfl, rfl, by decide +kernel, rfl, by decide +kernel, by decide +kernel⟩
theorem dv_add (B : Bn mg) (T : Tb Γ P w K mg base n) {fa : Addr} {fd : FuncData} (F : Fun K (PySem.Str.ofString "add") (PySem.Str.ofString "add") stm_add fa fd) : FnOk P w K mg base (L2.CX P w) (n + 1) fa fd [PySem.Str.ofString "one", PySem.Str.ofString "other"] (spF ⟨K, mg⟩ (runFn fn_add (callN Γ n))) :=
  fn_sound F sc_add rfl rfl fun cdv A outer s H E β hr => by
    have hu := hu_of hr
    have nd := sc_add.nd
    have tk : ∀ σ, PassesAt (L2.CX P w) (cxOf (L2.CX P w) P w K mg base N_add (PySem.Str.ofString "add") (defScope stm_add) fa cdv A outer s H E) σ (WE (WB.w (wOf E β)) σ) := fun σ => passAt (takes_of rfl rfl rfl rfl) σ
    exact (xscons (xdrop (xcall (f := "check_fraction") T hr tk rfl [false] rfl (xcons (xv _ _ 0) xnil)))
      (xscons (xdrop (xcall (f := "check_fraction") T hr tk rfl [false] rfl (xcons (xv _ _ 1) xnil)))
      (xsone (xret (xcall (f := "plus") T hr tk rfl [false, false] rfl (xcons (xv _ _ 0) (xcons (xv _ _ 1) xnil)))))))
theorem sc_multiply : FnScope N_multiply [PySem.Str.ofString "one", PySem.Str.ofString "other"] (defScope stm_multiply) := ⟨rfl, rfl, rfl, by decide +kernel, rfl, by decide +kernel, by decide +kernel⟩
theorem dv_multiply (B : Bn mg) (T : Tb Γ P w K mg base n) {fa : Addr} {fd : FuncData} (F : Fun K (PySem.Str.ofString "multiply") (PySem.Str.ofString "multiply") stm_multiply fa fd) : FnOk P w K mg base (L2.CX P w) (n + 1) fa fd [PySem.Str.ofString "one", PySem.Str.ofString "other"] (spF ⟨K, mg⟩ (runFn fn_multiply (callN Γ n))) :=
  fn_sound F sc_multiply rfl rfl fun cdv A outer s H E β hr => by
    have hu := hu_of hr
    have nd := sc_multiply.nd
    have tk : ∀ σ, PassesAt (L2.CX P w) (cxOf (L2.CX P w) P w K mg base N_multiply (PySem.Str.ofString "multiply") (defScope stm_multiply) fa cdv A outer s H E) σ (WE (WB.w (wOf E β)) σ) := fun σ => passAt (takes_of rfl rfl rfl rfl) σ
    exact (xscons (xdrop (xcall (f := "check_fraction") T hr tk rfl [false] rfl (xcons (xv _ _ 0) xnil)))
      (xscons (xdrop (xcall (f := "check_fraction") T hr tk rfl [false] rfl (xcons (xv _ _ 1) xnil)))
      (xsone (xret (xcall (f := "scaled") T hr tk rfl [false, false] rfl (xcons (xv _ _ 0) (xcons (xv _ _ 1) xnil)))))))
theorem sc_compare : FnScope N_compare [PySem.Str.ofString "one", PySem.Str.ofString "other"] (defScope stm_compare) := ⟨rfl, rfl, rfl, by decide +kernel, rfl, by decide +kernel, by decide +kernel⟩
theorem dv_compare (B : Bn mg) (T : Tb Γ P w K mg base n) {fa : Addr} {fd : FuncData} (F : Fun K (PySem.Str.ofString "compare") (PySem.Str.ofString "compare") stm_compare fa fd) : FnOk P w K mg base (L2.CX P w) (n + 1) fa fd [PySem.Str.ofString "one", PySem.Str.ofString "other"] (spF ⟨K, mg⟩ (runFn fn_compare (callN Γ n))) :=
  fn_sound F sc_compare rfl rfl fun cdv A outer s H E β hr => by
    have hu := hu_of hr
    have nd := sc_compare.nd
    have tk : ∀ σ, PassesAt (L2.CX P w) (cxOf (L2.CX P w) P w K mg base N_compare (PySem.Str.ofString "compare") (defScope stm_compare) fa cdv A outer s H E) σ (WE (WB.w (wOf E β)) σ) := fun σ => passAt (takes_of rfl rfl rfl rfl) σ
    exact (xscons (xdrop (xcall (f := "check_fraction") T hr tk rfl [false] rfl (xcons (xv _ _ 0) xnil)))
      (xscons (xdrop (xcall (f := "check_fraction") T hr tk rfl [false] rfl (xcons (xv _ _ 1) xnil)))
      (xscons (xifs (xtcmp (op_eqD hr.units) s_eq (xv _ _ 0) (xv _ _ 1) (nomark _)) (xsone (xret xint)) xsnil)
      (xsone (xret (xif (xtval (xcall (f := "is_less") T hr tk rfl [false, false] rfl (xcons (xv _ _ 0) (xcons (xv _ _ 1) xnil)))) (xun un_neg s_neg xint) xint))))))
theorem sc_floor_of : FnScope N_floor_of [PySem.Str.ofString "x"] (defScope stm_floor_of) := ⟨rfl, rfl, rfl, by decide +kernel, rfl, by decide +kernel, by decide +kernel⟩
theorem dv_floor_of (B : Bn mg) (T : Tb Γ P w K mg base n) {fa : Addr} {fd : FuncData} (F : Fun K (PySem.Str.ofString "floor_of") (PySem.Str.ofString "floor_of") stm_floor_of fa fd) : FnOk P w K mg base (L2.CX P w) (n + 1) fa fd [PySem.Str.ofString "x"] (spF ⟨K, mg⟩ (runFn fn_floor_of (callN Γ n))) :=
  fn_sound F sc_floor_of rfl rfl fun cdv A outer s H E β hr => by
    have hu := hu_of hr
    have nd := sc_floor_of.nd
    have tk : ∀ σ, PassesAt (L2.CX P w) (cxOf (L2.CX P w) P w K mg base N_floor_of (PySem.Str.ofString "floor_of") (defScope stm_floor_of) fa cdv A outer s H E) σ (WE (WB.w (wOf E β)) σ) := fun σ => passAt (takes_of rfl rfl rfl rfl) σ
    exact (xscons (xdrop (xcall (f := "check_fraction") T hr tk rfl [false] rfl (xcons (xv _ _ 0) xnil)))
      (xsone (xret (xcall (f := "whole_of") T hr tk rfl [false] rfl (xcons (xv _ _ 0) xnil)))))
theorem sc__law_urn : FnScope N__law_urn [PySem.Str.ofString "script"] (defScope stm__law_urn) := ⟨rfl, rfl, rfl, by decide +kernel, rfl, by decide +kernel, by decide +kernel⟩
theorem dv__law_urn (B : Bn mg) (T : Tb Γ P w K mg base n) {fa : Addr} {fd : FuncData} (F : Fun K (PySem.Str.ofString "_law_urn") (PySem.Str.ofString "_law_urn") stm__law_urn fa fd) : FnOk P w K mg base (L2.CX P w) (n + 1) fa fd [PySem.Str.ofString "script"] (spF ⟨K, mg⟩ (runFn fn__law_urn (callN Γ n))) :=
  fn_sound F sc__law_urn rfl rfl fun cdv A outer s H E β hr => by
    have hu := hu_of hr
    have nd := sc__law_urn.nd
    have tk : ∀ σ, PassesAt (L2.CX P w) (cxOf (L2.CX P w) P w K mg base N__law_urn (PySem.Str.ofString "_law_urn") (defScope stm__law_urn) fa cdv A outer s H E) σ (WE (WB.w (wOf E β)) σ) := fun σ => passAt (takes_of rfl rfl rfl rfl) σ
    exact (xsone (xret (xdct (xpcons (xty call_list_of s_list rfl B.list (by decide +kernel) (xcons (xv _ _ 0) xnil)) (xpcons xint (xpcons xint (xpcons xint (xpcons xint xpnil))))) (by rfl) (by rfl) (fun z => by cases z) (by decide))))
theorem sc__law_pick : FnScope N__law_pick [PySem.Str.ofString "urn", PySem.Str.ofString "many"] (defScope stm__law_pick) := ⟨rfl, rfl, rfl, by decide +kernel, rfl, by decide +kernel, by decide +kernel⟩
theorem dv__law_pick (B : Bn mg) (T : Tb Γ P w K mg base n) {fa : Addr} {fd : FuncData} (F : Fun K (PySem.Str.ofString "_law_pick") (PySem.Str.ofString "_law_pick") stm__law_pick fa fd) : FnOk P w K mg base (L2.CX P w) (n + 1) fa fd [PySem.Str.ofString "urn", PySem.Str.ofString "many"] (spF ⟨K, mg⟩ (runFn fn__law_pick (callN Γ n))) :=
  fn_sound F sc__law_pick rfl rfl fun cdv A outer s H E β hr => by
    have hu := hu_of hr
    have nd := sc__law_pick.nd
    have tk : ∀ σ, PassesAt (L2.CX P w) (cxOf (L2.CX P w) P w K mg base N__law_pick (PySem.Str.ofString "_law_pick") (defScope stm__law_pick) fa cdv A outer s H E) σ (WE (WB.w (wOf E β)) σ) := fun σ => passAt (takes_of rfl rfl rfl rfl) σ
    exact (xscons (xifs (xwt (xwand (xtcmp (op_eqD hr.units) s_eq (xdget hu (xv _ _ 0) xstr (fun _ _ => rfl)) xint (nomark _)) (xwand1 (xtcmp op_lt s_lt (xdget hu (xv _ _ 0) xstr (fun _ _ => rfl)) (xb call_lenA s_len rfl B.len (by decide +kernel) (xcons (xdget hu (xv _ _ 0) xstr (fun _ _ => rfl)) xnil)) (nomark _))))) (xscons (xset (i := 2) nd rfl (.inl rfl) (xix _ (xdget hu (xv _ _ 0) xstr (fun _ _ => rfl)) (xdget hu (xv _ _ 0) xstr (fun _ _ => rfl)) (fun _ _ => rfl)))
      (xscons (xdaug hu (xv _ _ 0) xstr xint in_addA s_iadd (fun _ _ _ => rfl))
      (xsone (xifs (xtcmp op_ge s_ge (xv _ _ 2) (xop op_pow s_pow xint xint) (nomark _)) (xsone (xdput hu (xv _ _ 0) xstr (xop op_sub s_sub (xv _ _ 2) (xop op_pow s_pow xint xint)))) (xsone (xdput hu (xv _ _ 0) xstr (xop op_modN s_mod (xty call_int1 s_int1 rfl B.int (by decide +kernel) (xcons (xop op_addA s_add (xop op_addA s_add (xop op_mulA s_mul (xdget hu (xv _ _ 0) xstr (fun _ _ => rfl)) xint) (xop op_mulA s_mul (xv _ _ 2) xint)) xint) xnil)) xint))))))) xsnil)
      (xscons (xifs (xtcmp op_gt s_gt (xdget hu (xv _ _ 0) xstr (fun _ _ => rfl)) xint (nomark _)) (xscons (xset (i := 3) nd rfl (.inl rfl) (xop op_modN s_mod (xty call_int1 s_int1 rfl B.int (by decide +kernel) (xcons (xdget hu (xv _ _ 0) xstr (fun _ _ => rfl)) xnil)) (xv _ _ 1)))
      (xscons (xdput hu (xv _ _ 0) xstr (xop op_fdivX s_fdiv (xdget hu (xv _ _ 0) xstr (fun _ _ => rfl)) (xv _ _ 1)))
      (xsone (xret (xv _ _ 3))))) xsnil)
      (xscons (xdaug hu (xv _ _ 0) xstr xint in_addA s_iadd (fun _ _ _ => rfl))
      (xscons (xdput hu (xv _ _ 0) xstr (xop op_modN s_mod (xty call_int1 s_int1 rfl B.int (by decide +kernel) (xcons (xop op_addA s_add (xop op_mulA s_mul (xdget hu (xv _ _ 0) xstr (fun _ _ => rfl)) xint) (xop op_mulA s_mul xint (xdget hu (xv _ _ 0) xstr (fun _ _ => rfl)))) xnil)) xint))
      (xscons (xset (i := 4) nd rfl (.inl rfl) (xop op_modN s_mod (xty call_int1 s_int1 rfl B.int (by decide +kernel) (xcons (xop op_addA s_add (xop op_fdivX s_fdiv (xop op_mulA s_mul (xdget hu (xv _ _ 0) xstr (fun _ _ => rfl)) (xdget hu (xv _ _ 0) xstr (fun _ _ => rfl))) xint) (xdget hu (xv _ _ 0) xstr (fun _ _ => rfl))) xnil)) xint))
      (xsone (xret (xop op_modN s_mod (xty call_int1 s_int1 rfl B.int (by decide +kernel) (xcons (xop op_fdivX s_fdiv (xv _ _ 4) xint) xnil)) (xv _ _ 1)))))))))
theorem sc__law_same : FnScope N__law_same [PySem.Str.ofString "told", PySem.Str.ofString "due"] (defScope stm__law_same) := ⟨rfl, rfl, rfl, by decide +kernel, rfl, by decide +kernel, by decide +kernel⟩
theorem dv__law_same (B : Bn mg) (T : Tb Γ P w K mg base n) {fa : Addr} {fd : FuncData} (F : Fun K (PySem.Str.ofString "_law_same") (PySem.Str.ofString "_law_same") stm__law_same fa fd) : FnOk P w K mg base (L2.CX P w) (n + 1) fa fd [PySem.Str.ofString "told", PySem.Str.ofString "due"] (spF ⟨K, mg⟩ (runFn fn__law_same (callN Γ n))) :=
  fn_sound F sc__law_same rfl rfl fun cdv A outer s H E β hr => by
    have hu := hu_of hr
    have nd := sc__law_same.nd
    have tk : ∀ σ, PassesAt (L2.CX P w) (cxOf (L2.CX P w) P w K mg base N__law_same (PySem.Str.ofString "_law_same") (defScope stm__law_same) fa cdv A outer s H E) σ (WE (WB.w (wOf E β)) σ) := fun σ => passAt (takes_of rfl rfl rfl rfl) σ
    exact (xscons (xifs (xwt (xwor (xtcmp op_isN s_is (xv _ _ 1) xnon (nomark _)) (xwor1 (xtval (xisi _ (k := .bool) (xv _ _ 1) (by decide +kernel) rfl B.isinstance rfl B.bool))))) (xsone (xret (xif (xtcmp op_isN s_is (xv _ _ 1) xnon (nomark _)) (xcmp op_isN s_is (xv _ _ 0) xnon (nomark _)) (xand (xisi _ (k := .bool) (xv _ _ 0) (by decide +kernel) rfl B.isinstance rfl B.bool) (xone (xcmp (op_eqD hr.units) s_eq (xv _ _ 0) (xv _ _ 1) (nomark _))))))) xsnil)
      (xscons (xifs (xtval (xisi _ (k := .int) (xv _ _ 1) (by decide +kernel) rfl B.isinstance rfl B.int)) (xsone (xret (xand (xisi _ (k := .int) (xv _ _ 0) (by decide +kernel) rfl B.isinstance rfl B.int) (xand (xnot (xisi _ (k := .bool) (xv _ _ 0) (by decide +kernel) rfl B.isinstance rfl B.bool)) (xone (xcmp (op_eqD hr.units) s_eq (xv _ _ 0) (xv _ _ 1) (nomark _))))))) xsnil)
      (xscons (xifs (xtval (xisi _ (k := .str) (xv _ _ 1) (by decide +kernel) rfl B.isinstance rfl B.str)) (xsone (xret (xand (xisi _ (k := .str) (xv _ _ 0) (by decide +kernel) rfl B.isinstance rfl B.str) (xone (xcmp (op_eqD hr.units) s_eq (xv _ _ 0) (xv _ _ 1) (nomark _)))))) xsnil)
      (xscons (xifs (xwt (xwor (xtcmp (op_neD hr.units) s_ne (xisi _ (k := .tuple) (xv _ _ 0) (by decide +kernel) rfl B.isinstance rfl B.tuple) (xisi _ (k := .tuple) (xv _ _ 1) (by decide +kernel) rfl B.isinstance rfl B.tuple) (nomark _)) (xwor1 (xtcmp (op_neD hr.units) s_ne (xisi _ (k := .list) (xv _ _ 0) (by decide +kernel) rfl B.isinstance rfl B.list) (xisi _ (k := .list) (xv _ _ 1) (by decide +kernel) rfl B.isinstance rfl B.list) (nomark _))))) (xsone (xret xbl)) xsnil)
      (xsone (xret (xand (xcmp (op_eqD hr.units) s_eq (xb call_lenA s_len rfl B.len (by decide +kernel) (xcons (xv _ _ 0) xnil)) (xb call_lenA s_len rfl B.len (by decide +kernel) (xcons (xv _ _ 1) xnil)) (nomark _)) (xone (xb (cr_all rfl) s_all rfl B.all (by decide +kernel) (xcons (xlc rfl nd (xirng1 rfl B.range (xcons (xb call_lenA s_len rfl B.len (by decide +kernel) (xcons (xv _ _ 1) xnil)) xnil)) (own := [("at", 2)]) (blkOk_by (own := [("at", 2)]) (N := N__law_same) (sc := defScope stm__law_same) (by decide +kernel)) (fun _ _ _ _ _ => (gname (i := 2) nd rfl (.inl rfl))) (fun _ _ _ _ _ => xcyes) (fun _ _ _ _ _ => (xcall (f := "_law_same") T (by exact hr) (by exact fun σ => passF σ) rfl [false, false] rfl (xcons (xix _ (xv _ _ 0) (xv _ _ 2) (fun _ _ => rfl)) (xcons (xix _ (xv _ _ 1) (xv _ _ 2) (fun _ _ => rfl)) xnil)))) (wp_name (by decide)) gm_name) xnil))))))))))
theorem sc__law_lowest : FnScope N__law_lowest [PySem.Str.ofString "top", PySem.Str.ofString "bottom"] (defScope stm__law_lowest) := ⟨rfl, rfl, rfl, by decide +kernel, rfl, by decide +kernel, by decide +kernel⟩
theorem dv__law_lowest (B : Bn mg) (T : Tb Γ P w K mg base n) {fa : Addr} {fd : FuncData} (F : Fun K (PySem.Str.ofString "_law_lowest") (PySem.Str.ofString "_law_lowest") stm__law_lowest fa fd) : FnOk P w K mg base (L2.CX P w) (n + 1) fa fd [PySem.Str.ofString "top", PySem.Str.ofString "bottom"] (spF ⟨K, mg⟩ (runFn fn__law_lowest (callN Γ n))) :=
  fn_sound F sc__law_lowest rfl rfl fun cdv A outer s H E β hr => by
    have hu := hu_of hr
    have nd := sc__law_lowest.nd
    have tk : ∀ σ, PassesAt (L2.CX P w) (cxOf (L2.CX P w) P w K mg base N__law_lowest (PySem.Str.ofString "_law_lowest") (defScope stm__law_lowest) fa cdv A outer s H E) σ (WE (WB.w (wOf E β)) σ) := fun σ => passAt (takes_of rfl rfl rfl rfl) σ
    exact (xscons (xpar2 (i := 2) (j := 3) rfl nd rfl rfl (by decide) rfl rfl (xcons (xb call_abs s_abs rfl B.abs (by decide +kernel) (xcons (xv _ _ 0) xnil)) (xcons (xb call_abs s_abs rfl B.abs (by decide +kernel) (xcons (xv _ _ 1) xnil)) xnil)) (by rfl))
      (xscons (xfor (passes_of rfl) rfl (xirng1 rfl B.range (xcons xint xnil)) (gname (i := 4) nd rfl (.inl rfl)) (xscons (xifs (xtcmp (op_eqD hr.units) s_eq (xv _ _ 3) xint (nomark _)) (xsone xbreak) xsnil)
      (xsone (xpar2 (i := 2) (j := 3) rfl nd rfl rfl (by decide) rfl rfl (xcons (xv _ _ 3) (xcons (xop op_modN s_mod (xty call_int1 s_int1 rfl B.int (by decide +kernel) (xcons (xv _ _ 2) xnil)) (xv _ _ 3)) xnil)) (by rfl)))))
      (xscons (xset (i := 5) nd rfl (.inl rfl) (xif (xtcmp op_lt s_lt (xv _ _ 1) xint (nomark _)) (xun un_neg s_neg xint) xint))
      (xsone (xret (xtup (xcons (xop op_fdivX s_fdiv (xop op_mulA s_mul (xv _ _ 5) (xv _ _ 0)) (xv _ _ 2)) (xcons (xop op_fdivX s_fdiv (xop op_mulA s_mul (xv _ _ 5) (xv _ _ 1)) (xv _ _ 2)) xnil))))))))
theorem sc__law_integer : FnScope N__law_integer [PySem.Str.ofString "urn"] (defScope stm__law_integer) := ⟨rfl, rfl, rfl, by decide +kernel, rfl, by decide +kernel, by decide +kernel⟩
theorem dv__law_integer (B : Bn mg) (T : Tb Γ P w K mg base n) {fa : Addr} {fd : FuncData} (F : Fun K (PySem.Str.ofString "_law_integer") (PySem.Str.ofString "_law_integer") stm__law_integer fa fd) : FnOk P w K mg base (L2.CX P w) (n + 1) fa fd [PySem.Str.ofString "urn"] (spF ⟨K, mg⟩ (runFn fn__law_integer (callN Γ n))) :=
  fn_sound F sc__law_integer rfl rfl fun cdv A outer s H E β hr => by
    have hu := hu_of hr
    have nd := sc__law_integer.nd
    have tk : ∀ σ, PassesAt (L2.CX P w) (cxOf (L2.CX P w) P w K mg base N__law_integer (PySem.Str.ofString "_law_integer") (defScope stm__law_integer) fa cdv A outer s H E) σ (WE (WB.w (wOf E β)) σ) := fun σ => passAt (takes_of rfl rfl rfl rfl) σ
    exact (xscons (xset (i := 1) nd rfl (.inl rfl) (xix _ (xlst (xcons xint (xcons xint (xcons xint (xcons (xop op_pow s_pow xint xint) xnil))))) (xcall (f := "_law_pick") T hr tk rfl [true, false] rfl (xcons (xv _ _ 0) (xcons xint xnil))) (fun _ _ => rfl)))
      (xsone (xret (xop op_sub s_sub (xcall (f := "_law_pick") T hr tk rfl [true, false] rfl (xcons (xv _ _ 0) (xcons (xop op_addA s_add (xop op_mulA s_mul xint (xv _ _ 1)) xint) xnil))) (xv _ _ 1)))))
theorem sc__law_two : FnScope N__law_two [PySem.Str.ofString "urn"] (defScope stm__law_two) := ⟨rfl, rfl, rfl, by decide +kernel, rfl, by decide +kernel, by decide +kernel⟩
theorem dv__law_two (B : Bn mg) (T : Tb Γ P w K mg base n) {fa : Addr} {fd : FuncData} (F : Fun K (PySem.Str.ofString "_law_two") (PySem.Str.ofString "_law_two") stm__law_two fa fd) : FnOk P w K mg base (L2.CX P w) (n + 1) fa fd [PySem.Str.ofString "urn"] (spF ⟨K, mg⟩ (runFn fn__law_two (callN Γ n))) :=
  fn_sound F sc__law_two rfl rfl fun cdv A outer s H E β hr => by
    have hu := hu_of hr
    have nd := sc__law_two.nd
    have tk : ∀ σ, PassesAt (L2.CX P w) (cxOf (L2.CX P w) P w K mg base N__law_two (PySem.Str.ofString "_law_two") (defScope stm__law_two) fa cdv A outer s H E) σ (WE (WB.w (wOf E β)) σ) := fun σ => passAt (takes_of rfl rfl rfl rfl) σ
    exact (xscons (xunp (xlc rfl nd (xirng1 rfl B.range (xcons xint xnil)) (own := [("turn", 6)]) (blkOk_by (own := [("turn", 6)]) (N := N__law_two) (sc := defScope stm__law_two) (by decide +kernel)) (fun _ _ _ _ _ => (gname (i := 6) nd rfl (.inl rfl))) (fun _ _ _ _ _ => xcyes) (fun _ _ _ _ _ => (xcall (f := "_law_integer") T (by exact hr) (by exact fun σ => passF σ) rfl [true] rfl (xcons (xv _ _ 0) xnil))) (wp_name (by decide)) gm_name) (glst rfl (gcons (gname (i := 1) nd rfl (.inl rfl)) (gcons (gname (i := 2) nd rfl (.inl rfl)) (gcons (gname (i := 3) nd rfl (.inl rfl)) (gcons (gname (i := 4) nd rfl (.inl rfl)) gnil))))))
      (xscons (xpar2 (i := 2) (j := 4) rfl nd rfl rfl (by decide) rfl rfl (xcons (xif (xtcmp (op_neD hr.units) s_ne (xv _ _ 2) xint (nomark _)) (xv _ _ 2) xint) (xcons (xif (xtcmp (op_neD hr.units) s_ne (xv _ _ 4) xint (nomark _)) (xv _ _ 4) (xun un_neg s_neg xint)) xnil)) (by rfl))
      (xscons (xset (i := 5) nd rfl (.inl rfl) (xcall (f := "_law_pick") T hr tk rfl [true, false] rfl (xcons (xv _ _ 0) (xcons xint xnil))))
      (xscons (xifs (xtcmp (op_eqD hr.units) s_eq (xv _ _ 5) xint (nomark _)) (xsone (xpar2 (i := 3) (j := 4) rfl nd rfl rfl (by decide) rfl rfl (xcons (xop op_mulA s_mul (xv _ _ 1) xint) (xcons (xop op_mulA s_mul (xv _ _ 2) xint) xnil)) (by rfl))) (xsone (xifs (xtcmp (op_eqD hr.units) s_eq (xv _ _ 5) xint (nomark _)) (xsone (xpar2 (i := 3) (j := 4) rfl nd rfl rfl (by decide) rfl rfl (xcons (xop op_addA s_add (xv _ _ 1) xint) (xcons (xv _ _ 2) xnil)) (by rfl))) xsnil)))
      (xsone (xret (xtup (xcons (xv _ _ 1) (xcons (xv _ _ 2) (xcons (xv _ _ 3) (xcons (xv _ _ 4) xnil)))))))))))
theorem sc_law : FnScope N_law [PySem.Str.ofString "script"] (defScope stm_law) := ⟨rfl, rfl, rfl, by decide +kernel, rfl, by decide +kernel, by decide +kernel⟩
theorem dv_law (B : Bn mg) (T : Tb Γ P w K mg base n) {fa : Addr} {fd : FuncData} (F : Fun K (PySem.Str.ofString "law") (PySem.Str.ofString "law") stm_law fa fd) : FnOk P w K mg base (L2.CX P w) (n + 1) fa fd [PySem.Str.ofString "script"] (spF ⟨K, mg⟩ (runFn fn_law (callN Γ n))) :=
  fn_sound F sc_law rfl rfl fun cdv A outer s H E β hr => by
    have hu := hu_of hr
    have nd := sc_law.nd
    have tk : ∀ σ, PassesAt (L2.CX P w) (cxOf (L2.CX P w) P w K mg base N_law (PySem.Str.ofString "law") (defScope stm_law) fa cdv A outer s H E) σ (WE (WB.w (wOf E β)) σ) := fun σ => passAt (takes_of rfl rfl rfl rfl) σ
    exact (xscons (xset (i := 1) nd rfl (.inl rfl) (xcall (f := "_law_urn") T hr tk rfl [false] rfl (xcons (xv _ _ 0) xnil)))
      (xscons (xfor (passes_of rfl) rfl (xirng1 rfl B.range (xcons xint xnil)) (gname (i := 2) nd rfl (.inl rfl)) (xscons (xunp (xcall (f := "_law_two") T hr tk rfl [true] rfl (xcons (xv _ _ 1) xnil)) (gtup rfl (gcons (gname (i := 3) nd rfl (.inl rfl)) (gcons (gname (i := 4) nd rfl (.inl rfl)) (gcons (gname (i := 5) nd rfl (.inl rfl)) (gcons (gname (i := 6) nd rfl (.inl rfl)) gnil))))))
      (xscons (xpar2 (i := 7) (j := 8) rfl nd rfl rfl (by decide) rfl rfl (xcons (xcall (f := "_law_lowest") T hr tk rfl [false, false] rfl (xcons (xv _ _ 3) (xcons (xv _ _ 4) xnil))) (xcons (xcall (f := "_law_lowest") T hr tk rfl [false, false] rfl (xcons (xv _ _ 5) (xcons (xv _ _ 6) xnil))) xnil)) (by rfl))
      (xscons (xifs (xtnot (xtval (xcall (f := "_law_same") T hr tk rfl [false, false] rfl (xcons (xlst (xcons (xcall (f := "fraction_of") T hr tk rfl [false, false] rfl (xcons (xv _ _ 3) (xcons (xv _ _ 4) xnil))) (xcons (xcallk (f := "fraction_of") (ks := ["bottom", "top"]) (perm := [1, 0]) T hr tk rfl [false, false] (by decide) rfl rfl (xkcons (xv _ _ 6) (xkcons (xv _ _ 5) xknil))) xnil))) (xcons (xlst (xcons (xv _ _ 7) (xcons (xv _ _ 8) xnil))) xnil))))) (xsone (xret xbl)) xsnil)
      (xscons (xpar2 (i := 9) (j := 10) rfl nd rfl rfl (by decide) rfl rfl (xcons (xcall (f := "_law_lowest") T hr tk rfl [false, false] rfl (xcons (xop op_addA s_add (xop op_mulA s_mul (xix _ (xv _ _ 7) xint (fun _ _ => rfl)) (xix _ (xv _ _ 8) xint (fun _ _ => rfl))) (xop op_mulA s_mul (xix _ (xv _ _ 8) xint (fun _ _ => rfl)) (xix _ (xv _ _ 7) xint (fun _ _ => rfl)))) (xcons (xop op_mulA s_mul (xix _ (xv _ _ 7) xint (fun _ _ => rfl)) (xix _ (xv _ _ 8) xint (fun _ _ => rfl))) xnil))) (xcons (xcall (f := "_law_lowest") T hr tk rfl [false, false] rfl (xcons (xop op_mulA s_mul (xix _ (xv _ _ 7) xint (fun _ _ => rfl)) (xix _ (xv _ _ 8) xint (fun _ _ => rfl))) (xcons (xop op_mulA s_mul (xix _ (xv _ _ 7) xint (fun _ _ => rfl)) (xix _ (xv _ _ 8) xint (fun _ _ => rfl))) xnil))) xnil)) (by rfl))
      (xscons (xifs (xtnot (xtval (xcall (f := "_law_same") T hr tk rfl [false, false] rfl (xcons (xlst (xcons (xcall (f := "add") T hr tk rfl [false, false] rfl (xcons (xv _ _ 7) (xcons (xv _ _ 8) xnil))) (xcons (xcallk (f := "add") (ks := ["other", "one"]) (perm := [1, 0]) T hr tk rfl [false, false] (by decide) rfl rfl (xkcons (xv _ _ 7) (xkcons (xv _ _ 8) xknil))) xnil))) (xcons (xlst (xcons (xv _ _ 9) (xcons (xv _ _ 9) xnil))) xnil))))) (xsone (xret xbl)) xsnil)
      (xscons (xifs (xtnot (xtval (xcall (f := "_law_same") T hr tk rfl [false, false] rfl (xcons (xlst (xcons (xcall (f := "multiply") T hr tk rfl [false, false] rfl (xcons (xv _ _ 7) (xcons (xv _ _ 8) xnil))) (xcons (xcallk (f := "multiply") (ks := ["other", "one"]) (perm := [1, 0]) T hr tk rfl [false, false] (by decide) rfl rfl (xkcons (xv _ _ 7) (xkcons (xv _ _ 8) xknil))) xnil))) (xcons (xlst (xcons (xv _ _ 10) (xcons (xv _ _ 10) xnil))) xnil))))) (xsone (xret xbl)) xsnil)
      (xscons (xset (i := 11) nd rfl (.inl rfl) (xop op_sub s_sub (xop op_mulA s_mul (xix _ (xv _ _ 7) xint (fun _ _ => rfl)) (xix _ (xv _ _ 8) xint (fun _ _ => rfl))) (xop op_mulA s_mul (xix _ (xv _ _ 8) xint (fun _ _ => rfl)) (xix _ (xv _ _ 7) xint (fun _ _ => rfl)))))
      (xscons (xset (i := 12) nd rfl (.inl rfl) (xif (xtcmp op_lt s_lt (xv _ _ 11) xint (nomark _)) (xun un_neg s_neg xint) (xif (xtcmp op_gt s_gt (xv _ _ 11) xint (nomark _)) xint xint)))
      (xscons (xifs (xtnot (xtval (xcall (f := "_law_same") T hr tk rfl [false, false] rfl (xcons (xlst (xcons (xcall (f := "compare") T hr tk rfl [false, false] rfl (xcons (xv _ _ 7) (xcons (xv _ _ 8) xnil))) (xcons (xcallk (f := "compare") (ks := ["other", "one"]) (perm := [1, 0]) T hr tk rfl [false, false] (by decide) rfl rfl (xkcons (xv _ _ 7) (xkcons (xv _ _ 8) xknil))) (xcons (xcall (f := "compare") T hr tk rfl [false, false] rfl (xcons (xv _ _ 7) (xcons (xv _ _ 7) xnil))) xnil)))) (xcons (xlst (xcons (xv _ _ 12) (xcons (xun un_neg s_neg (xv _ _ 12)) (xcons xint xnil)))) xnil))))) (xsone (xret xbl)) xsnil)
      (xscons (xset (i := 13) nd rfl (.inl rfl) (xcall (f := "floor_of") T hr tk rfl [false] rfl (xcons (xv _ _ 7) xnil)))
      (xscons (xifs (xwt (xwor (xtnot (xtval (xisi _ (k := .int) (xv _ _ 13) (by decide +kernel) rfl B.isinstance rfl B.int))) (xwor (xtval (xisi _ (k := .bool) (xv _ _ 13) (by decide +kernel) rfl B.isinstance rfl B.bool)) (xwor1 (xtnot (xtchain op_le s_le b_le op_lt s_lt xint (xop op_sub s_sub (xix _ (xv _ _ 7) xint (fun _ _ => rfl)) (xop op_mulA s_mul (xv _ _ 13) (xix _ (xv _ _ 7) xint (fun _ _ => rfl)))) (xix _ (xv _ _ 7) xint (fun _ _ => rfl)))))))) (xsone (xret xbl)) xsnil)
      (xscons (xifs (xtnot (xtval (xcall (f := "_law_same") T hr tk rfl [false, false] rfl (xcons (xlst (xcons (xcallk (f := "floor_of") (ks := ["x"]) (perm := [0]) T hr tk rfl [false] (by decide) rfl rfl (xkcons (xv _ _ 8) xknil)) (xcons (xcall (f := "is_fraction") T hr tk rfl [false] rfl (xcons (xv _ _ 7) xnil)) (xcons (xcallk (f := "is_fraction") (ks := ["value"]) (perm := [0]) T hr tk rfl [false] (by decide) rfl rfl (xkcons (xv _ _ 8) xknil)) xnil)))) (xcons (xlst (xcons (xop op_fdivX s_fdiv (xix _ (xv _ _ 8) xint (fun _ _ => rfl)) (xix _ (xv _ _ 8) xint (fun _ _ => rfl))) (xcons xbl (xcons xbl xnil)))) xnil))))) (xsone (xret xbl)) xsnil)
      (xscons (xset (i := 14) nd rfl (.inl rfl) (xop op_addA s_add xint (xcall (f := "_law_pick") T hr tk rfl [true, false] rfl (xcons (xv _ _ 1) (xcons xint xnil)))))
      (xscons (xset (i := 15) nd rfl (.inl rfl) (xlst (xcons (xtup (xcons (xop op_mulA s_mul (xix _ (xv _ _ 7) xint (fun _ _ => rfl)) (xv _ _ 14)) (xcons (xop op_mulA s_mul (xix _ (xv _ _ 7) xint (fun _ _ => rfl)) (xv _ _ 14)) xnil))) (xcons (xtup (xcons (xun un_neg s_neg (xix _ (xv _ _ 7) xint (fun _ _ => rfl))) (xcons (xun un_neg s_neg (xix _ (xv _ _ 7) xint (fun _ _ => rfl))) xnil))) (xcons (xtup (xcons (xix _ (xv _ _ 7) xint (fun _ _ => rfl)) (xcons xint xnil))) (xcons (xlst (xcons (xix _ (xv _ _ 7) xint (fun _ _ => rfl)) (xcons (xix _ (xv _ _ 7) xint (fun _ _ => rfl)) xnil))) (xcons (xop op_addA s_add (xv _ _ 7) (xtup (xcons xint xnil))) (xcons (xsl (xv _ _ 7) (xpnone _) (xpsome xint)) (xcons (xtup (xcons (xv _ _ 7) (xcons (xv _ _ 8) xnil))) xnil)))))))))
      (xsone (xifs (xtnot (xtval (xcall (f := "_law_same") T hr tk rfl [false, false] rfl (xcons (xlc rfl nd (xival (xv _ _ 15)) (own := [("told", 16)]) (blkOk_by (own := [("told", 16)]) (N := N_law) (sc := defScope stm_law) (by decide +kernel)) (fun _ _ _ _ _ => (gname (i := 16) nd rfl (.inl rfl))) (fun _ _ _ _ _ => xcyes) (fun _ _ _ _ _ => (xcall (f := "is_fraction") T (by exact hr) (by exact fun σ => passF σ) rfl [false] rfl (xcons (xv _ _ 16) xnil))) (wp_name (by decide)) gm_name) (xcons (xlc rfl nd (xival (xv _ _ 15)) (own := [("told", 16)]) (blkOk_by (own := [("told", 16)]) (N := N_law) (sc := defScope stm_law) (by decide +kernel)) (fun _ _ _ _ _ => (gname (i := 16) nd rfl (.inl rfl))) (fun _ _ _ _ _ => xcyes) (fun _ _ _ _ _ => xbl) (wp_name (by decide)) gm_name) xnil))))) (xsone (xret xbl)) xsnil)))))))))))))))))
      (xsone (xret xbl))))
end
end K00
end P_Walk_K00

noncomputable section P_Head_K00
set_option Elab.async false
set_option linter.all false
set_option maxRecDepth 100000
set_option maxHeartbeats 0
/-! The head of a law over a T.py; printed by gen.py. -/
namespace K00
open PySem L2 PySem.Spec Ev
open PyProof.Rows hiding St
set_option autoImplicit false
def fnl0 : List He.DefD := [dq "is_integer" stm_is_integer, dq "made" stm_made, dq "plus" stm_plus, dq "scaled" stm_scaled, dq "is_less" stm_is_less, dq "whole_of" stm_whole_of, dq "is_fraction" stm_is_fraction, dq "check_fraction" stm_check_fraction, dq "fraction_of" stm_fraction_of, dq "add" stm_add, dq "multiply" stm_multiply, dq "compare" stm_compare, dq "floor_of" stm_floor_of, dq "_law_urn" stm__law_urn, dq "_law_pick" stm__law_pick, dq "_law_same" stm__law_same, dq "_law_lowest" stm__law_lowest, dq "_law_integer" stm__law_integer, dq "_law_two" stm__law_two, dq "law" stm_law]
def fal0 : List He.Fa := [.glo (PySem.Str.ofString "is_integer"), .glo (PySem.Str.ofString "made"), .glo (PySem.Str.ofString "plus"), .glo (PySem.Str.ofString "scaled"), .glo (PySem.Str.ofString "is_less"), .glo (PySem.Str.ofString "whole_of"), .glo (PySem.Str.ofString "is_fraction"), .glo (PySem.Str.ofString "check_fraction"), .glo (PySem.Str.ofString "fraction_of"), .glo (PySem.Str.ofString "add"), .glo (PySem.Str.ofString "multiply"), .glo (PySem.Str.ofString "compare"), .glo (PySem.Str.ofString "floor_of"), .glo (PySem.Str.ofString "_law_urn"), .glo (PySem.Str.ofString "_law_pick"), .glo (PySem.Str.ofString "_law_same"), .glo (PySem.Str.ofString "_law_lowest"), .glo (PySem.Str.ofString "_law_integer"), .glo (PySem.Str.ofString "_law_two"), .glo (PySem.Str.ofString "law")]
def fnl : List He.DefD := fnl0
def fal : List He.Fa := fal0 ++ ([.free (PySem.Str.ofString "abs"), .free (PySem.Str.ofString "all"), .free (PySem.Str.ofString "bool"), .free (PySem.Str.ofString "int"), .free (PySem.Str.ofString "isinstance"), .free (PySem.Str.ofString "len"), .free (PySem.Str.ofString "list"), .free (PySem.Str.ofString "range"), .free (PySem.Str.ofString "str"), .free (PySem.Str.ofString "tuple")] : List He.Fa)
def exl (K : PySem.W.Frag) : Bool := biB "gcd" "math.gcd" K
theorem bnd_is_integer : BndOk "is_integer" stm_is_integer fn_is_integer.ps := fun _ _ _ _ _ _ us hl => match us, hl with | [_], _ => rfl
theorem kwd_is_integer : KwdOk "is_integer" stm_is_integer fn_is_integer.ps fn_is_integer.kws := kwd0
theorem bnd_made : BndOk "made" stm_made fn_made.ps := fun _ _ _ _ _ _ us hl => match us, hl with | [_, _], _ => rfl
theorem kwd_made : KwdOk "made" stm_made fn_made.ps fn_made.kws := kwd0
theorem bnd_plus : BndOk "plus" stm_plus fn_plus.ps := fun _ _ _ _ _ _ us hl => match us, hl with | [_, _], _ => rfl
theorem kwd_plus : KwdOk "plus" stm_plus fn_plus.ps fn_plus.kws := kwd0
theorem bnd_scaled : BndOk "scaled" stm_scaled fn_scaled.ps := fun _ _ _ _ _ _ us hl => match us, hl with | [_, _], _ => rfl
theorem kwd_scaled : KwdOk "scaled" stm_scaled fn_scaled.ps fn_scaled.kws := kwd0
theorem bnd_is_less : BndOk "is_less" stm_is_less fn_is_less.ps := fun _ _ _ _ _ _ us hl => match us, hl with | [_, _], _ => rfl
theorem kwd_is_less : KwdOk "is_less" stm_is_less fn_is_less.ps fn_is_less.kws := kwd0
theorem bnd_whole_of : BndOk "whole_of" stm_whole_of fn_whole_of.ps := fun _ _ _ _ _ _ us hl => match us, hl with | [_], _ => rfl
theorem kwd_whole_of : KwdOk "whole_of" stm_whole_of fn_whole_of.ps fn_whole_of.kws := kwd0
theorem bnd_is_fraction : BndOk "is_fraction" stm_is_fraction fn_is_fraction.ps := fun _ _ _ _ _ _ us hl => match us, hl with | [_], _ => rfl
theorem kwd_is_fraction : KwdOk "is_fraction" stm_is_fraction fn_is_fraction.ps fn_is_fraction.kws := fun kV doc pm an cdv ct ks perm hm s ws ws' e hl => by
  simp only [fn_is_fraction, List.mem_cons, List.not_mem_nil, or_false, Prod.mk.injEq] at hm
  rcases hm with ⟨rfl, rfl⟩
  all_goals
    match ws, e with
    | [], e => simp [permL] at e
    | a0 :: r, e =>
      cases e
      exact .of_eq rfl
theorem bnd_check_fraction : BndOk "check_fraction" stm_check_fraction fn_check_fraction.ps := fun _ _ _ _ _ _ us hl => match us, hl with | [_], _ => rfl
theorem kwd_check_fraction : KwdOk "check_fraction" stm_check_fraction fn_check_fraction.ps fn_check_fraction.kws := kwd0
theorem bnd_fraction_of : BndOk "fraction_of" stm_fraction_of fn_fraction_of.ps := fun _ _ _ _ _ _ us hl => match us, hl with | [_, _], _ => rfl
theorem kwd_fraction_of : KwdOk "fraction_of" stm_fraction_of fn_fraction_of.ps fn_fraction_of.kws := fun kV doc pm an cdv ct ks perm hm s ws ws' e hl => by
  simp only [fn_fraction_of, List.mem_cons, List.not_mem_nil, or_false, Prod.mk.injEq] at hm
  rcases hm with ⟨rfl, rfl⟩
  all_goals
    match ws, e with
    | [], e => simp [permL] at e
    | [a0], e => simp [permL] at e
    | a0 :: a1 :: r, e =>
      cases e
      exact .of_eq rfl
theorem bnd_add : BndOk "add" stm_add fn_add.ps := fun _ _ _ _ _ _ us hl => match us, hl with | [_, _], _ => rfl
theorem kwd_add : KwdOk "add" stm_add fn_add.ps fn_add.kws := fun kV doc pm an cdv ct ks perm hm s ws ws' e hl => by
  simp only [fn_add, List.mem_cons, List.not_mem_nil, or_false, Prod.mk.injEq] at hm
  rcases hm with ⟨rfl, rfl⟩
  all_goals
    match ws, e with
    | [], e => simp [permL] at e
    | [a0], e => simp [permL] at e
    | a0 :: a1 :: r, e =>
      cases e
      exact .of_eq rfl
theorem bnd_multiply : BndOk "multiply" stm_multiply fn_multiply.ps := fun _ _ _ _ _ _ us hl => match us, hl with | [_, _], _ => rfl
theorem kwd_multiply : KwdOk "multiply" stm_multiply fn_multiply.ps fn_multiply.kws := fun kV doc pm an cdv ct ks perm hm s ws ws' e hl => by
  simp only [fn_multiply, List.mem_cons, List.not_mem_nil, or_false, Prod.mk.injEq] at hm
  rcases hm with ⟨rfl, rfl⟩
  all_goals
    match ws, e with
    | [], e => simp [permL] at e
    | [a0], e => simp [permL] at e
    | a0 :: a1 :: r, e =>
      cases e
      exact .of_eq rfl
theorem bnd_compare : BndOk "compare" stm_compare fn_compare.ps := fun _ _ _ _ _ _ us hl => match us, hl with | [_, _], _ => rfl
theorem kwd_compare : KwdOk "compare" stm_compare fn_compare.ps fn_compare.kws := fun kV doc pm an cdv ct ks perm hm s ws ws' e hl => by
  simp only [fn_compare, List.mem_cons, List.not_mem_nil, or_false, Prod.mk.injEq] at hm
  rcases hm with ⟨rfl, rfl⟩
  all_goals
    match ws, e with
    | [], e => simp [permL] at e
    | [a0], e => simp [permL] at e
    | a0 :: a1 :: r, e =>
      cases e
      exact .of_eq rfl
theorem bnd_floor_of : BndOk "floor_of" stm_floor_of fn_floor_of.ps := fun _ _ _ _ _ _ us hl => match us, hl with | [_], _ => rfl
theorem kwd_floor_of : KwdOk "floor_of" stm_floor_of fn_floor_of.ps fn_floor_of.kws := fun kV doc pm an cdv ct ks perm hm s ws ws' e hl => by
  simp only [fn_floor_of, List.mem_cons, List.not_mem_nil, or_false, Prod.mk.injEq] at hm
  rcases hm with ⟨rfl, rfl⟩
  all_goals
    match ws, e with
    | [], e => simp [permL] at e
    | a0 :: r, e =>
      cases e
      exact .of_eq rfl
theorem bnd__law_urn : BndOk "_law_urn" stm__law_urn fn__law_urn.ps := fun _ _ _ _ _ _ us hl => match us, hl with | [_], _ => rfl
theorem kwd__law_urn : KwdOk "_law_urn" stm__law_urn fn__law_urn.ps fn__law_urn.kws := kwd0
theorem bnd__law_pick : BndOk "_law_pick" stm__law_pick fn__law_pick.ps := fun _ _ _ _ _ _ us hl => match us, hl with | [_, _], _ => rfl
theorem kwd__law_pick : KwdOk "_law_pick" stm__law_pick fn__law_pick.ps fn__law_pick.kws := kwd0
theorem bnd__law_same : BndOk "_law_same" stm__law_same fn__law_same.ps := fun _ _ _ _ _ _ us hl => match us, hl with | [_, _], _ => rfl
theorem kwd__law_same : KwdOk "_law_same" stm__law_same fn__law_same.ps fn__law_same.kws := kwd0
theorem bnd__law_lowest : BndOk "_law_lowest" stm__law_lowest fn__law_lowest.ps := fun _ _ _ _ _ _ us hl => match us, hl with | [_, _], _ => rfl
theorem kwd__law_lowest : KwdOk "_law_lowest" stm__law_lowest fn__law_lowest.ps fn__law_lowest.kws := kwd0
theorem bnd__law_integer : BndOk "_law_integer" stm__law_integer fn__law_integer.ps := fun _ _ _ _ _ _ us hl => match us, hl with | [_], _ => rfl
theorem kwd__law_integer : KwdOk "_law_integer" stm__law_integer fn__law_integer.ps fn__law_integer.kws := kwd0
theorem bnd__law_two : BndOk "_law_two" stm__law_two fn__law_two.ps := fun _ _ _ _ _ _ us hl => match us, hl with | [_], _ => rfl
theorem kwd__law_two : KwdOk "_law_two" stm__law_two fn__law_two.ps fn__law_two.kws := kwd0
theorem bnd_law : BndOk "law" stm_law fn_law.ps := fun _ _ _ _ _ _ us hl => match us, hl with | [_], _ => rfl
theorem kwd_law : KwdOk "law" stm_law fn_law.ps fn_law.kws := kwd0
section
variable {P : Program} {w : World} {K : PySem.W.Frag} {mg : PySem.Str → Option Value} {base h : Heap}
theorem bns (X : K.In h) (G : h.Ns mainGlobals mg) (S : He.SaysD fal fnl K) (e : exl K = true) : Bn mg := ⟨He.free_ok X G (S.fact 20 rfl), He.free_ok X G (S.fact 21 rfl), He.free_ok X G (S.fact 22 rfl), biB_ok X G e, He.free_ok X G (S.fact 23 rfl), He.free_ok X G (S.fact 24 rfl), He.free_ok X G (S.fact 25 rfl), He.free_ok X G (S.fact 26 rfl), He.free_ok X G (S.fact 27 rfl), He.free_ok X G (S.fact 28 rfl), He.free_ok X G (S.fact 29 rfl)⟩
theorem dh_is_integer (X : K.In h) (G : h.Ns mainGlobals mg) (S : He.SaysD fal fnl K) : ∃ a fd, DefH K mg "is_integer" fn_is_integer stm_is_integer a fd := defH_of X G S "is_integer" fn_is_integer stm_is_integer 0 rfl rfl bnd_is_integer kwd_is_integer
theorem dh_made (X : K.In h) (G : h.Ns mainGlobals mg) (S : He.SaysD fal fnl K) : ∃ a fd, DefH K mg "made" fn_made stm_made a fd := defH_of X G S "made" fn_made stm_made 1 rfl rfl bnd_made kwd_made
theorem dh_plus (X : K.In h) (G : h.Ns mainGlobals mg) (S : He.SaysD fal fnl K) : ∃ a fd, DefH K mg "plus" fn_plus stm_plus a fd := defH_of X G S "plus" fn_plus stm_plus 2 rfl rfl bnd_plus kwd_plus
theorem dh_scaled (X : K.In h) (G : h.Ns mainGlobals mg) (S : He.SaysD fal fnl K) : ∃ a fd, DefH K mg "scaled" fn_scaled stm_scaled a fd := defH_of X G S "scaled" fn_scaled stm_scaled 3 rfl rfl bnd_scaled kwd_scaled
theorem dh_is_less (X : K.In h) (G : h.Ns mainGlobals mg) (S : He.SaysD fal fnl K) : ∃ a fd, DefH K mg "is_less" fn_is_less stm_is_less a fd := defH_of X G S "is_less" fn_is_less stm_is_less 4 rfl rfl bnd_is_less kwd_is_less
theorem dh_whole_of (X : K.In h) (G : h.Ns mainGlobals mg) (S : He.SaysD fal fnl K) : ∃ a fd, DefH K mg "whole_of" fn_whole_of stm_whole_of a fd := defH_of X G S "whole_of" fn_whole_of stm_whole_of 5 rfl rfl bnd_whole_of kwd_whole_of
theorem dh_is_fraction (X : K.In h) (G : h.Ns mainGlobals mg) (S : He.SaysD fal fnl K) : ∃ a fd, DefH K mg "is_fraction" fn_is_fraction stm_is_fraction a fd := defH_of X G S "is_fraction" fn_is_fraction stm_is_fraction 6 rfl rfl bnd_is_fraction kwd_is_fraction
theorem dh_check_fraction (X : K.In h) (G : h.Ns mainGlobals mg) (S : He.SaysD fal fnl K) : ∃ a fd, DefH K mg "check_fraction" fn_check_fraction stm_check_fraction a fd := defH_of X G S "check_fraction" fn_check_fraction stm_check_fraction 7 rfl rfl bnd_check_fraction kwd_check_fraction
theorem dh_fraction_of (X : K.In h) (G : h.Ns mainGlobals mg) (S : He.SaysD fal fnl K) : ∃ a fd, DefH K mg "fraction_of" fn_fraction_of stm_fraction_of a fd := defH_of X G S "fraction_of" fn_fraction_of stm_fraction_of 8 rfl rfl bnd_fraction_of kwd_fraction_of
theorem dh_add (X : K.In h) (G : h.Ns mainGlobals mg) (S : He.SaysD fal fnl K) : ∃ a fd, DefH K mg "add" fn_add stm_add a fd := defH_of X G S "add" fn_add stm_add 9 rfl rfl bnd_add kwd_add
theorem dh_multiply (X : K.In h) (G : h.Ns mainGlobals mg) (S : He.SaysD fal fnl K) : ∃ a fd, DefH K mg "multiply" fn_multiply stm_multiply a fd := defH_of X G S "multiply" fn_multiply stm_multiply 10 rfl rfl bnd_multiply kwd_multiply
theorem dh_compare (X : K.In h) (G : h.Ns mainGlobals mg) (S : He.SaysD fal fnl K) : ∃ a fd, DefH K mg "compare" fn_compare stm_compare a fd := defH_of X G S "compare" fn_compare stm_compare 11 rfl rfl bnd_compare kwd_compare
theorem dh_floor_of (X : K.In h) (G : h.Ns mainGlobals mg) (S : He.SaysD fal fnl K) : ∃ a fd, DefH K mg "floor_of" fn_floor_of stm_floor_of a fd := defH_of X G S "floor_of" fn_floor_of stm_floor_of 12 rfl rfl bnd_floor_of kwd_floor_of
theorem dh__law_urn (X : K.In h) (G : h.Ns mainGlobals mg) (S : He.SaysD fal fnl K) : ∃ a fd, DefH K mg "_law_urn" fn__law_urn stm__law_urn a fd := defH_of X G S "_law_urn" fn__law_urn stm__law_urn 13 rfl rfl bnd__law_urn kwd__law_urn
theorem dh__law_pick (X : K.In h) (G : h.Ns mainGlobals mg) (S : He.SaysD fal fnl K) : ∃ a fd, DefH K mg "_law_pick" fn__law_pick stm__law_pick a fd := defH_of X G S "_law_pick" fn__law_pick stm__law_pick 14 rfl rfl bnd__law_pick kwd__law_pick
theorem dh__law_same (X : K.In h) (G : h.Ns mainGlobals mg) (S : He.SaysD fal fnl K) : ∃ a fd, DefH K mg "_law_same" fn__law_same stm__law_same a fd := defH_of X G S "_law_same" fn__law_same stm__law_same 15 rfl rfl bnd__law_same kwd__law_same
theorem dh__law_lowest (X : K.In h) (G : h.Ns mainGlobals mg) (S : He.SaysD fal fnl K) : ∃ a fd, DefH K mg "_law_lowest" fn__law_lowest stm__law_lowest a fd := defH_of X G S "_law_lowest" fn__law_lowest stm__law_lowest 16 rfl rfl bnd__law_lowest kwd__law_lowest
theorem dh__law_integer (X : K.In h) (G : h.Ns mainGlobals mg) (S : He.SaysD fal fnl K) : ∃ a fd, DefH K mg "_law_integer" fn__law_integer stm__law_integer a fd := defH_of X G S "_law_integer" fn__law_integer stm__law_integer 17 rfl rfl bnd__law_integer kwd__law_integer
theorem dh__law_two (X : K.In h) (G : h.Ns mainGlobals mg) (S : He.SaysD fal fnl K) : ∃ a fd, DefH K mg "_law_two" fn__law_two stm__law_two a fd := defH_of X G S "_law_two" fn__law_two stm__law_two 18 rfl rfl bnd__law_two kwd__law_two
theorem dh_law (X : K.In h) (G : h.Ns mainGlobals mg) (S : He.SaysD fal fnl K) : ∃ a fd, DefH K mg "law" fn_law stm_law a fd := defH_of X G S "law" fn_law stm_law 19 rfl rfl bnd_law kwd_law
theorem tb (X : K.In h) (G : h.Ns mainGlobals mg) (S : He.SaysD fal fnl K) (e : exl K = true) : ∀ n, Tb Γ P w K mg base n := tb_all fun f c hf => by
  have B := bns X G S e
  unfold Γ at hf
  split at hf
  · cases hf; obtain ⟨a, fd, D⟩ := dh_is_integer X G S; exact ⟨a, fd, D.at_, fun n T => dv_is_integer B T D.fn⟩
  · cases hf; obtain ⟨a, fd, D⟩ := dh_made X G S; exact ⟨a, fd, D.at_, fun n T => dv_made B T D.fn⟩
  · cases hf; obtain ⟨a, fd, D⟩ := dh_plus X G S; exact ⟨a, fd, D.at_, fun n T => dv_plus B T D.fn⟩
  · cases hf; obtain ⟨a, fd, D⟩ := dh_scaled X G S; exact ⟨a, fd, D.at_, fun n T => dv_scaled B T D.fn⟩
  · cases hf; obtain ⟨a, fd, D⟩ := dh_is_less X G S; exact ⟨a, fd, D.at_, fun n T => dv_is_less B T D.fn⟩
  · cases hf; obtain ⟨a, fd, D⟩ := dh_whole_of X G S; exact ⟨a, fd, D.at_, fun n T => dv_whole_of B T D.fn⟩
  · cases hf; obtain ⟨a, fd, D⟩ := dh_is_fraction X G S; exact ⟨a, fd, D.at_, fun n T => dv_is_fraction B T D.fn⟩
  · cases hf; obtain ⟨a, fd, D⟩ := dh_check_fraction X G S; exact ⟨a, fd, D.at_, fun n T => dv_check_fraction B T D.fn⟩
  · cases hf; obtain ⟨a, fd, D⟩ := dh_fraction_of X G S; exact ⟨a, fd, D.at_, fun n T => dv_fraction_of B T D.fn⟩
  · cases hf; obtain ⟨a, fd, D⟩ := dh_add X G S; exact ⟨a, fd, D.at_, fun n T => dv_add B T D.fn⟩
  · cases hf; obtain ⟨a, fd, D⟩ := dh_multiply X G S; exact ⟨a, fd, D.at_, fun n T => dv_multiply B T D.fn⟩
  · cases hf; obtain ⟨a, fd, D⟩ := dh_compare X G S; exact ⟨a, fd, D.at_, fun n T => dv_compare B T D.fn⟩
  · cases hf; obtain ⟨a, fd, D⟩ := dh_floor_of X G S; exact ⟨a, fd, D.at_, fun n T => dv_floor_of B T D.fn⟩
  · cases hf; obtain ⟨a, fd, D⟩ := dh__law_urn X G S; exact ⟨a, fd, D.at_, fun n T => dv__law_urn B T D.fn⟩
  · cases hf; obtain ⟨a, fd, D⟩ := dh__law_pick X G S; exact ⟨a, fd, D.at_, fun n T => dv__law_pick B T D.fn⟩
  · cases hf; obtain ⟨a, fd, D⟩ := dh__law_same X G S; exact ⟨a, fd, D.at_, fun n T => dv__law_same B T D.fn⟩
  · cases hf; obtain ⟨a, fd, D⟩ := dh__law_lowest X G S; exact ⟨a, fd, D.at_, fun n T => dv__law_lowest B T D.fn⟩
  · cases hf; obtain ⟨a, fd, D⟩ := dh__law_integer X G S; exact ⟨a, fd, D.at_, fun n T => dv__law_integer B T D.fn⟩
  · cases hf; obtain ⟨a, fd, D⟩ := dh__law_two X G S; exact ⟨a, fd, D.at_, fun n T => dv__law_two B T D.fn⟩
  · cases hf; obtain ⟨a, fd, D⟩ := dh_law X G S; exact ⟨a, fd, D.at_, fun n T => dv_law B T D.fn⟩
  · cases hf
end
abbrev R : PySem.W.OpenRow := PySem.W.OpenLaw.row PySem.Challenge.rw_wholeshapes_k00_fractions
def loose0 : List PySem.Str := [(PySem.Str.ofString "LineError"), (PySem.Str.ofString "InvalidNumber"), (PySem.Str.ofString "InvalidFraction"), (PySem.Str.ofString "is_integer"), (PySem.Str.ofString "made"), (PySem.Str.ofString "plus"), (PySem.Str.ofString "scaled"), (PySem.Str.ofString "is_less"), (PySem.Str.ofString "whole_of"), (PySem.Str.ofString "is_fraction"), (PySem.Str.ofString "check_fraction"), (PySem.Str.ofString "fraction_of"), (PySem.Str.ofString "add"), (PySem.Str.ofString "multiply"), (PySem.Str.ofString "compare"), (PySem.Str.ofString "floor_of"), (PySem.Str.ofString "_law_urn"), (PySem.Str.ofString "_law_pick"), (PySem.Str.ofString "_law_same"), (PySem.Str.ofString "_law_lowest"), (PySem.Str.ofString "_law_integer"), (PySem.Str.ofString "_law_two")]
def loose : List PySem.Str := loose0
theorem run (w : World) : HandSHeadRun.RunEqI R (PySem.W.view R.prog [0, 27]) (hookV 4 fal fnl exl) (obV 4 fal fnl exl) 3000 loose w := by
  unfold HandSHeadRun.RunEqI
  kernel_rfl
open PySem.W PySem.Calls in
theorem holds_of {N : Nat} (hr : Room (N + 1) PySem.callerA) (math : LawSays Γ (N + 1)) : PySem.Challenge.rw_wholeshapes_k00_fractions.Holds := by
  w_on; o_law
  refine HandSHeadRun.head_imp (r := OpenLaw.row PySem.Challenge.rw_wholeshapes_k00_fractions) (q := view (OpenLaw.row PySem.Challenge.rw_wholeshapes_k00_fractions).prog [0, 27]) (H := hookV 4 fal fnl exl) (ob := obV 4 fal fnl exl) (M := 3000) (loose := loose) (d := HandSHeadRun.topDef (OpenLaw.row PySem.Challenge.rw_wholeshapes_k00_fractions).prog 27) (kwd := []) obV_eq
     run (by kernel_rfl) (by kernel_rfl) (by kernel_rfl) (by rfl) (by first | assumption | decide +kernel) (by decide +kernel) ⟨rfl, rfl, rfl, rfl, rfl, by decide +kernel⟩ ?hw ?hc
  case hw => w_witness2
  case hc =>
    refine walkV (l := PySem.Challenge.rw_wholeshapes_k00_fractions) (n := 4) (fa := fal) (fn := fnl) (ex := exl) (Γ := Γ) (c := fn_law) (st := stm_law) (x := "script") rfl (by kernel_rfl) hr (by kernel_rfl) rfl rfl math ?F
    intro w mg h K X G S e
    obtain ⟨a, fd, D⟩ := dh_law X G S
    exact ⟨a, fd, D, fun base => dv_law (bns X G S e) (tb X G S e N) D.fn⟩
end K00
end P_Head_K00

section P_M0
set_option Elab.async false
set_option linter.all false
set_option maxRecDepth 100000
namespace K00
open Ev
set_option autoImplicit false
theorem r_is_integer (n : Nat) (i : Int) : callN Γ (n + 1) "is_integer" [.v (.int i)] = .rt (.v (.bool true)) [.v (.int i)] := by
  show runFn fn_is_integer (callN Γ n) _ = _
  simp only [at_bind, at_ok, at_er, at_no, at_var, at_k, at_op, at_un, at_lk, at_opt, at_nil, at_cons, at_b, at_lks0, at_lks1, at_test, at_toTs0, at_toTs1, at_toTv, at_toTf, at_toTl, at_notT, ltl0, ltl1, ltl2, ltl3, ltl4, ltl5, ltl6, ltl7, ltl8, ltl9, ltl10, ltl11, ltl12, ltl13, ltl14, ltl15, ltl16, at_andT, at_orT, at_if, at_andV, at_orV, at_chain, at_set, at_drop, at_ret, at_pass, at_brk, at_cnt, at_ifS, at_seq, at_putv, at_putf, at_tup, at_lst, at_call, at_callK, at_args0, at_args1, at_argb, at_argt, at_callA, at_unp, at_btup, at_blst, at_bnil, at_bcons, at_bname, at_isi, at_notV, at_par, at_stabs0, at_stabs1, at_stabv, at_stabf, at_puts0, at_puts1, at_daug, at_store, at_chk, at_getE, at_setO, at_modE, at_meth, at_for, at_sval, at_rng1, at_sl, at_po0, at_po1, at_lc, at_dct, at_clear0, at_clear1, at_lc0, at_nox, at_yes, at_for0, at_aft_nx, at_aft_ct, at_aft_bk, at_aft_rt, at_wip0, at_wip1, Bool.and_true, look, List.getElem?_cons_zero, List.getElem?_cons_succ, List.getElem?_nil, List.set_cons_zero, List.set_cons_succ, List.set_nil, List.length_cons, List.length_nil, List.length_map, List.cons_append, List.nil_append, List.length_set, addF, subF, negF, ltF, leF, gtF, geF, isF, isnF, isNF, gcdF, absF, intF, iaddF, isiF, isi, Option.map_some, Option.map_none, Option.bind_some, Ob.data, keyT, List.map_cons, List.map_nil, argsS, bIdx, back, likeA, List.nodup_nil, List.nodup_cons, List.not_mem_nil, not_false_eq_true, and_self, and_true, true_and, if_true, if_false, ite_true, ite_false, ↓reduceIte, Bool.not_true, Bool.not_false, Bool.false_eq_true, decide_true, decide_false, Ev.finish, endOf, retOf, leave, enter, tagA, Ev.strip, retag, List.replicate, Nat.reduceAdd, Nat.reduceSub, Nat.reduceLT, Nat.reduceLeDiff, Nat.reduceEqDiff, permL, liftO, liftG, Urn.ty, Urn.st, Urn.lg, Urn.lo, eq_self, Urn.rt, line0, line1, line2, line3, line4, line5, line6, line7, line8, line9, line10, line11, line12, line13, line14, line15, line16, Urn.g_cells, Urn.g_at, Urn.g_deep, Urn.g_mix, Urn.g_turn, Urn.d_at, Urn.d_turn, Urn.p_at, Urn.p_deep, Urn.p_mix, Urn.p_turn, eq_int, ne_int, eq_bool, ne_bool, ten18, ten15, lenF, runFn, obT, fn_is_integer, cd_is_integer]
theorem r_made (n : Nat) (a b : Int) (h : (Nat.gcd a.natAbs b.natAbs : Int) ≠ 0) (h2 : Bd 9000 (Nat.gcd a.natAbs b.natAbs : Nat)) : callN Γ (n + 1) "made" [.v (.int a), .v (.int b)] =
   .rt (.v (.tuple [.int (a.fdiv (Nat.gcd a.natAbs b.natAbs : Nat)), .int (b.fdiv (Nat.gcd a.natAbs b.natAbs : Nat))])) [.v (.int a), .v (.int b)] := by
  show runFn fn_made (callN Γ n) _ = _
  simp only [at_bind, at_ok, at_er, at_no, at_var, at_k, at_op, at_un, at_lk, at_opt, at_nil, at_cons, at_b, at_lks0, at_lks1, at_test, at_toTs0, at_toTs1, at_toTv, at_toTf, at_toTl, at_notT, ltl0, ltl1, ltl2, ltl3, ltl4, ltl5, ltl6, ltl7, ltl8, ltl9, ltl10, ltl11, ltl12, ltl13, ltl14, ltl15, ltl16, at_andT, at_orT, at_if, at_andV, at_orV, at_chain, at_set, at_drop, at_ret, at_pass, at_brk, at_cnt, at_ifS, at_seq, at_putv, at_putf, at_tup, at_lst, at_call, at_callK, at_args0, at_args1, at_argb, at_argt, at_callA, at_unp, at_btup, at_blst, at_bnil, at_bcons, at_bname, at_isi, at_notV, at_par, at_stabs0, at_stabs1, at_stabv, at_stabf, at_puts0, at_puts1, at_daug, at_store, at_chk, at_getE, at_setO, at_modE, at_meth, at_for, at_sval, at_rng1, at_sl, at_po0, at_po1, at_lc, at_dct, at_clear0, at_clear1, at_lc0, at_nox, at_yes, at_for0, at_aft_nx, at_aft_ct, at_aft_bk, at_aft_rt, at_wip0, at_wip1, Bool.and_true, look, List.getElem?_cons_zero, List.getElem?_cons_succ, List.getElem?_nil, List.set_cons_zero, List.set_cons_succ, List.set_nil, List.length_cons, List.length_nil, List.length_map, List.cons_append, List.nil_append, List.length_set, addF, subF, negF, ltF, leF, gtF, geF, isF, isnF, isNF, gcdF, absF, intF, iaddF, isiF, isi, Option.map_some, Option.map_none, Option.bind_some, Ob.data, keyT, List.map_cons, List.map_nil, argsS, bIdx, back, likeA, List.nodup_nil, List.nodup_cons, List.not_mem_nil, not_false_eq_true, and_self, and_true, true_and, if_true, if_false, ite_true, ite_false, ↓reduceIte, Bool.not_true, Bool.not_false, Bool.false_eq_true, decide_true, decide_false, Ev.finish, endOf, retOf, leave, enter, tagA, Ev.strip, retag, List.replicate, Nat.reduceAdd, Nat.reduceSub, Nat.reduceLT, Nat.reduceLeDiff, Nat.reduceEqDiff, permL, liftO, liftG, Urn.ty, Urn.st, Urn.lg, Urn.lo, eq_self, Urn.rt, line0, line1, line2, line3, line4, line5, line6, line7, line8, line9, line10, line11, line12, line13, line14, line15, line16, Urn.g_cells, Urn.g_at, Urn.g_deep, Urn.g_mix, Urn.g_turn, Urn.d_at, Urn.d_turn, Urn.p_at, Urn.p_deep, Urn.p_mix, Urn.p_turn, eq_int, ne_int, eq_bool, ne_bool, ten18, ten15, lenF, runFn, obT, fn_made, cd_made, fdiv_ok h h2]
def pickR (u : Urn) (many : Int) : Int × Urn :=
  let u1 := if u.deep = 0 ∧ u.at_ < u.cells.length then
    (if u.cells.getD u.at_.toNat 0 ≥ 1000000000000000000 then { u with at_ := u.at_ + 1, deep := u.cells.getD u.at_.toNat 0 - 1000000000000000000 } else { u with at_ := u.at_ + 1, mix := (u.mix * 37 + u.cells.getD u.at_.toNat 0 * 11 + 3).fmod 4294967291 }) else u
  if u1.deep > 0 then (u1.deep.fmod many, { u1 with deep := u1.deep.fdiv many })
  else
    let u2 := { u1 with turn := u1.turn + 1, mix := (u1.mix * 279470273 + 15485863 * (u1.turn + 1)).fmod 4294967291 }
    ((((u2.mix * u2.mix).fdiv 1013 + u2.mix).fmod 2147483629).fdiv 7 |>.fmod many, u2)
theorem ix_cells (cs : List Int) (k : Int) (h0 : 0 ≤ k) (h1 : k < cs.length) : ixF (.list (cs.map .int)) (.int k) = some (.v (.int (cs.getD k.toNat 0))) := by
  have h2 : k.toNat < cs.length := by omega
  simp [ixF, L2.atI, L2.ixN, h0, h1, h2]
/-- the pick's end -/
theorem r_pick (n : Nat) (u : Urn) (many : Int) (o : Ob) (ho : strip o = u.ob) (hm : many ≠ 0) (hb : Bd 9000 many) (ha : 0 ≤ u.at_) (hx : Bd 100 u.mix) (ht : Bd 100 u.turn) (hc : ∀ c ∈ u.cells, Bd 1048576 c) : callN Γ (n + 1) "_law_pick" [.own o, .v (.int many)] = .rt (.v (.int (pickR u many).1)) [.own (retag o (pickR u many).2.ob), .v (.int many)] := by
  show runFn fn__law_pick (callN Γ n) _ = _
  have e1 : ∀ x : Int, Bd 33 (x.fmod 4294967291) := fun x => by
    have h0 := Int.fmod_nonneg_of_pos x (show (0 : Int) < 4294967291 by decide)
    have h1 := Int.fmod_lt_of_pos x (show (0 : Int) < 4294967291 by decide)
    show _ < (8589934592 : Nat)
    omega
  have k37 : Bd 40 37 := by decide
  have k11 : Bd 40 11 := by decide
  have k27 : Bd 40 279470273 := by decide
  have k15 : Bd 40 15485863 := by decide
  have k10 : Bd 40 1013 := by decide
  have k7 : Bd 40 7 := by decide
  have t1 : Bd 101 (u.turn + 1) := ht.add (by decide)
  have m37 := mul_ok hx k37
  have z1 : (4294967291 : Int) ≠ 0 := by decide
  have z2 : (1013 : Int) ≠ 0 := by decide
  have z3 : (2147483629 : Int) ≠ 0 := by decide
  have z4 : (7 : Int) ≠ 0 := by decide
  by_cases h1 : u.deep = 0
  · by_cases h2 : u.at_ < u.cells.length
    · have e := ix_cells u.cells u.at_ ha h2
      have hk : Bd 1048576 (u.cells.getD u.at_.toNat 0) := hc _ (by
        have : u.at_.toNat < u.cells.length := by omega
        rw [List.getD_eq_getElem?_getD, List.getElem?_eq_getElem this]
        exact List.getElem_mem this)
      by_cases h3 : 1000000000000000000 ≤ u.cells.getD u.at_.toNat 0
      · by_cases h4 : 0 < u.cells.getD u.at_.toNat 0 - 1000000000000000000
        · simp only [at_bind, at_ok, at_er, at_no, at_var, at_k, at_op, at_un, at_lk, at_opt, at_nil, at_cons, at_b, at_lks0, at_lks1, at_test, at_toTs0, at_toTs1, at_toTv, at_toTf, at_toTl, at_notT, ltl0, ltl1, ltl2, ltl3, ltl4, ltl5, ltl6, ltl7, ltl8, ltl9, ltl10, ltl11, ltl12, ltl13, ltl14, ltl15, ltl16, at_andT, at_orT, at_if, at_andV, at_orV, at_chain, at_set, at_drop, at_ret, at_pass, at_brk, at_cnt, at_ifS, at_seq, at_putv, at_putf, at_tup, at_lst, at_call, at_callK, at_args0, at_args1, at_argb, at_argt, at_callA, at_unp, at_btup, at_blst, at_bnil, at_bcons, at_bname, at_isi, at_notV, at_par, at_stabs0, at_stabs1, at_stabv, at_stabf, at_puts0, at_puts1, at_daug, at_store, at_chk, at_getE, at_setO, at_modE, at_meth, at_for, at_sval, at_rng1, at_sl, at_po0, at_po1, at_lc, at_dct, at_clear0, at_clear1, at_lc0, at_nox, at_yes, at_for0, at_aft_nx, at_aft_ct, at_aft_bk, at_aft_rt, at_wip0, at_wip1, Bool.and_true, look, List.getElem?_cons_zero, List.getElem?_cons_succ, List.getElem?_nil, List.set_cons_zero, List.set_cons_succ, List.set_nil, List.length_cons, List.length_nil, List.length_map, List.cons_append, List.nil_append, List.length_set, addF, subF, negF, ltF, leF, gtF, geF, isF, isnF, isNF, gcdF, absF, intF, iaddF, isiF, isi, Option.map_some, Option.map_none, Option.bind_some, Ob.data, keyT, List.map_cons, List.map_nil, argsS, bIdx, back, likeA, List.nodup_nil, List.nodup_cons, List.not_mem_nil, not_false_eq_true, and_self, and_true, true_and, if_true, if_false, ite_true, ite_false, ↓reduceIte, Bool.not_true, Bool.not_false, Bool.false_eq_true, decide_true, decide_false, Ev.finish, endOf, retOf, leave, enter, tagA, Ev.strip, retag, List.replicate, Nat.reduceAdd, Nat.reduceSub, Nat.reduceLT, Nat.reduceLeDiff, Nat.reduceEqDiff, permL, liftO, liftG, Urn.ty, Urn.st, Urn.lg, Urn.lo, eq_self, Urn.rt, line0, line1, line2, line3, line4, line5, line6, line7, line8, line9, line10, line11, line12, line13, line14, line15, line16, Urn.g_cells, Urn.g_at, Urn.g_deep, Urn.g_mix, Urn.g_turn, Urn.d_at, Urn.d_turn, Urn.p_at, Urn.p_deep, Urn.p_mix, Urn.p_turn, eq_int, ne_int, eq_bool, ne_bool, ten18, ten15, lenF, runFn, obT, fn__law_pick, cd__law_pick, ho, h1, h2, e, h3, h4, fdiv_ok hm hb, mod_ok hm, pickR, ge_iff_le, gt_iff_lt]
        · simp only [at_bind, at_ok, at_er, at_no, at_var, at_k, at_op, at_un, at_lk, at_opt, at_nil, at_cons, at_b, at_lks0, at_lks1, at_test, at_toTs0, at_toTs1, at_toTv, at_toTf, at_toTl, at_notT, ltl0, ltl1, ltl2, ltl3, ltl4, ltl5, ltl6, ltl7, ltl8, ltl9, ltl10, ltl11, ltl12, ltl13, ltl14, ltl15, ltl16, at_andT, at_orT, at_if, at_andV, at_orV, at_chain, at_set, at_drop, at_ret, at_pass, at_brk, at_cnt, at_ifS, at_seq, at_putv, at_putf, at_tup, at_lst, at_call, at_callK, at_args0, at_args1, at_argb, at_argt, at_callA, at_unp, at_btup, at_blst, at_bnil, at_bcons, at_bname, at_isi, at_notV, at_par, at_stabs0, at_stabs1, at_stabv, at_stabf, at_puts0, at_puts1, at_daug, at_store, at_chk, at_getE, at_setO, at_modE, at_meth, at_for, at_sval, at_rng1, at_sl, at_po0, at_po1, at_lc, at_dct, at_clear0, at_clear1, at_lc0, at_nox, at_yes, at_for0, at_aft_nx, at_aft_ct, at_aft_bk, at_aft_rt, at_wip0, at_wip1, Bool.and_true, look, List.getElem?_cons_zero, List.getElem?_cons_succ, List.getElem?_nil, List.set_cons_zero, List.set_cons_succ, List.set_nil, List.length_cons, List.length_nil, List.length_map, List.cons_append, List.nil_append, List.length_set, addF, subF, negF, ltF, leF, gtF, geF, isF, isnF, isNF, gcdF, absF, intF, iaddF, isiF, isi, Option.map_some, Option.map_none, Option.bind_some, Ob.data, keyT, List.map_cons, List.map_nil, argsS, bIdx, back, likeA, List.nodup_nil, List.nodup_cons, List.not_mem_nil, not_false_eq_true, and_self, and_true, true_and, if_true, if_false, ite_true, ite_false, ↓reduceIte, Bool.not_true, Bool.not_false, Bool.false_eq_true, decide_true, decide_false, Ev.finish, endOf, retOf, leave, enter, tagA, Ev.strip, retag, List.replicate, Nat.reduceAdd, Nat.reduceSub, Nat.reduceLT, Nat.reduceLeDiff, Nat.reduceEqDiff, permL, liftO, liftG, Urn.ty, Urn.st, Urn.lg, Urn.lo, eq_self, Urn.rt, line0, line1, line2, line3, line4, line5, line6, line7, line8, line9, line10, line11, line12, line13, line14, line15, line16, Urn.g_cells, Urn.g_at, Urn.g_deep, Urn.g_mix, Urn.g_turn, Urn.d_at, Urn.d_turn, Urn.p_at, Urn.p_deep, Urn.p_mix, Urn.p_turn, eq_int, ne_int, eq_bool, ne_bool, ten18, ten15, lenF, runFn, obT, fn__law_pick, cd__law_pick, ho, h1, h2, e, h3, h4, fdiv_ok hm hb, mod_ok hm, pickR, ge_iff_le, gt_iff_lt, mul_ok hx k27, mul_ok k15 t1, mod_ok z1, mul_ok (e1 _) (e1 _), fdiv_ok z2 k10, mod_ok z3, fdiv_ok z4 k7]
      · simp only [at_bind, at_ok, at_er, at_no, at_var, at_k, at_op, at_un, at_lk, at_opt, at_nil, at_cons, at_b, at_lks0, at_lks1, at_test, at_toTs0, at_toTs1, at_toTv, at_toTf, at_toTl, at_notT, ltl0, ltl1, ltl2, ltl3, ltl4, ltl5, ltl6, ltl7, ltl8, ltl9, ltl10, ltl11, ltl12, ltl13, ltl14, ltl15, ltl16, at_andT, at_orT, at_if, at_andV, at_orV, at_chain, at_set, at_drop, at_ret, at_pass, at_brk, at_cnt, at_ifS, at_seq, at_putv, at_putf, at_tup, at_lst, at_call, at_callK, at_args0, at_args1, at_argb, at_argt, at_callA, at_unp, at_btup, at_blst, at_bnil, at_bcons, at_bname, at_isi, at_notV, at_par, at_stabs0, at_stabs1, at_stabv, at_stabf, at_puts0, at_puts1, at_daug, at_store, at_chk, at_getE, at_setO, at_modE, at_meth, at_for, at_sval, at_rng1, at_sl, at_po0, at_po1, at_lc, at_dct, at_clear0, at_clear1, at_lc0, at_nox, at_yes, at_for0, at_aft_nx, at_aft_ct, at_aft_bk, at_aft_rt, at_wip0, at_wip1, Bool.and_true, look, List.getElem?_cons_zero, List.getElem?_cons_succ, List.getElem?_nil, List.set_cons_zero, List.set_cons_succ, List.set_nil, List.length_cons, List.length_nil, List.length_map, List.cons_append, List.nil_append, List.length_set, addF, subF, negF, ltF, leF, gtF, geF, isF, isnF, isNF, gcdF, absF, intF, iaddF, isiF, isi, Option.map_some, Option.map_none, Option.bind_some, Ob.data, keyT, List.map_cons, List.map_nil, argsS, bIdx, back, likeA, List.nodup_nil, List.nodup_cons, List.not_mem_nil, not_false_eq_true, and_self, and_true, true_and, if_true, if_false, ite_true, ite_false, ↓reduceIte, Bool.not_true, Bool.not_false, Bool.false_eq_true, decide_true, decide_false, Ev.finish, endOf, retOf, leave, enter, tagA, Ev.strip, retag, List.replicate, Nat.reduceAdd, Nat.reduceSub, Nat.reduceLT, Nat.reduceLeDiff, Nat.reduceEqDiff, permL, liftO, liftG, Urn.ty, Urn.st, Urn.lg, Urn.lo, eq_self, Urn.rt, line0, line1, line2, line3, line4, line5, line6, line7, line8, line9, line10, line11, line12, line13, line14, line15, line16, Urn.g_cells, Urn.g_at, Urn.g_deep, Urn.g_mix, Urn.g_turn, Urn.d_at, Urn.d_turn, Urn.p_at, Urn.p_deep, Urn.p_mix, Urn.p_turn, eq_int, ne_int, eq_bool, ne_bool, ten18, ten15, lenF, runFn, obT, fn__law_pick, cd__law_pick, ho, h1, h2, e, h3, mod_ok hm, pickR, ge_iff_le, gt_iff_lt, mul_ok (e1 _) k27, mul_ok k15 t1, mod_ok z1, mul_ok (e1 _) (e1 _), fdiv_ok z2 k10, mod_ok z3, fdiv_ok z4 k7, mul_ok hx k37, mul_ok hk k11, Int.lt_irrefl]
    · simp only [at_bind, at_ok, at_er, at_no, at_var, at_k, at_op, at_un, at_lk, at_opt, at_nil, at_cons, at_b, at_lks0, at_lks1, at_test, at_toTs0, at_toTs1, at_toTv, at_toTf, at_toTl, at_notT, ltl0, ltl1, ltl2, ltl3, ltl4, ltl5, ltl6, ltl7, ltl8, ltl9, ltl10, ltl11, ltl12, ltl13, ltl14, ltl15, ltl16, at_andT, at_orT, at_if, at_andV, at_orV, at_chain, at_set, at_drop, at_ret, at_pass, at_brk, at_cnt, at_ifS, at_seq, at_putv, at_putf, at_tup, at_lst, at_call, at_callK, at_args0, at_args1, at_argb, at_argt, at_callA, at_unp, at_btup, at_blst, at_bnil, at_bcons, at_bname, at_isi, at_notV, at_par, at_stabs0, at_stabs1, at_stabv, at_stabf, at_puts0, at_puts1, at_daug, at_store, at_chk, at_getE, at_setO, at_modE, at_meth, at_for, at_sval, at_rng1, at_sl, at_po0, at_po1, at_lc, at_dct, at_clear0, at_clear1, at_lc0, at_nox, at_yes, at_for0, at_aft_nx, at_aft_ct, at_aft_bk, at_aft_rt, at_wip0, at_wip1, Bool.and_true, look, List.getElem?_cons_zero, List.getElem?_cons_succ, List.getElem?_nil, List.set_cons_zero, List.set_cons_succ, List.set_nil, List.length_cons, List.length_nil, List.length_map, List.cons_append, List.nil_append, List.length_set, addF, subF, negF, ltF, leF, gtF, geF, isF, isnF, isNF, gcdF, absF, intF, iaddF, isiF, isi, Option.map_some, Option.map_none, Option.bind_some, Ob.data, keyT, List.map_cons, List.map_nil, argsS, bIdx, back, likeA, List.nodup_nil, List.nodup_cons, List.not_mem_nil, not_false_eq_true, and_self, and_true, true_and, if_true, if_false, ite_true, ite_false, ↓reduceIte, Bool.not_true, Bool.not_false, Bool.false_eq_true, decide_true, decide_false, Ev.finish, endOf, retOf, leave, enter, tagA, Ev.strip, retag, List.replicate, Nat.reduceAdd, Nat.reduceSub, Nat.reduceLT, Nat.reduceLeDiff, Nat.reduceEqDiff, permL, liftO, liftG, Urn.ty, Urn.st, Urn.lg, Urn.lo, eq_self, Urn.rt, line0, line1, line2, line3, line4, line5, line6, line7, line8, line9, line10, line11, line12, line13, line14, line15, line16, Urn.g_cells, Urn.g_at, Urn.g_deep, Urn.g_mix, Urn.g_turn, Urn.d_at, Urn.d_turn, Urn.p_at, Urn.p_deep, Urn.p_mix, Urn.p_turn, eq_int, ne_int, eq_bool, ne_bool, ten18, ten15, lenF, runFn, obT, fn__law_pick, cd__law_pick, ho, h1, h2, mod_ok hm, pickR, ge_iff_le, gt_iff_lt, mul_ok hx k27, mul_ok k15 t1, mod_ok z1, mul_ok (e1 _) (e1 _), fdiv_ok z2 k10, mod_ok z3, fdiv_ok z4 k7, Int.lt_irrefl, and_false]
  · by_cases h4 : 0 < u.deep
    · simp only [at_bind, at_ok, at_er, at_no, at_var, at_k, at_op, at_un, at_lk, at_opt, at_nil, at_cons, at_b, at_lks0, at_lks1, at_test, at_toTs0, at_toTs1, at_toTv, at_toTf, at_toTl, at_notT, ltl0, ltl1, ltl2, ltl3, ltl4, ltl5, ltl6, ltl7, ltl8, ltl9, ltl10, ltl11, ltl12, ltl13, ltl14, ltl15, ltl16, at_andT, at_orT, at_if, at_andV, at_orV, at_chain, at_set, at_drop, at_ret, at_pass, at_brk, at_cnt, at_ifS, at_seq, at_putv, at_putf, at_tup, at_lst, at_call, at_callK, at_args0, at_args1, at_argb, at_argt, at_callA, at_unp, at_btup, at_blst, at_bnil, at_bcons, at_bname, at_isi, at_notV, at_par, at_stabs0, at_stabs1, at_stabv, at_stabf, at_puts0, at_puts1, at_daug, at_store, at_chk, at_getE, at_setO, at_modE, at_meth, at_for, at_sval, at_rng1, at_sl, at_po0, at_po1, at_lc, at_dct, at_clear0, at_clear1, at_lc0, at_nox, at_yes, at_for0, at_aft_nx, at_aft_ct, at_aft_bk, at_aft_rt, at_wip0, at_wip1, Bool.and_true, look, List.getElem?_cons_zero, List.getElem?_cons_succ, List.getElem?_nil, List.set_cons_zero, List.set_cons_succ, List.set_nil, List.length_cons, List.length_nil, List.length_map, List.cons_append, List.nil_append, List.length_set, addF, subF, negF, ltF, leF, gtF, geF, isF, isnF, isNF, gcdF, absF, intF, iaddF, isiF, isi, Option.map_some, Option.map_none, Option.bind_some, Ob.data, keyT, List.map_cons, List.map_nil, argsS, bIdx, back, likeA, List.nodup_nil, List.nodup_cons, List.not_mem_nil, not_false_eq_true, and_self, and_true, true_and, if_true, if_false, ite_true, ite_false, ↓reduceIte, Bool.not_true, Bool.not_false, Bool.false_eq_true, decide_true, decide_false, Ev.finish, endOf, retOf, leave, enter, tagA, Ev.strip, retag, List.replicate, Nat.reduceAdd, Nat.reduceSub, Nat.reduceLT, Nat.reduceLeDiff, Nat.reduceEqDiff, permL, liftO, liftG, Urn.ty, Urn.st, Urn.lg, Urn.lo, eq_self, Urn.rt, line0, line1, line2, line3, line4, line5, line6, line7, line8, line9, line10, line11, line12, line13, line14, line15, line16, Urn.g_cells, Urn.g_at, Urn.g_deep, Urn.g_mix, Urn.g_turn, Urn.d_at, Urn.d_turn, Urn.p_at, Urn.p_deep, Urn.p_mix, Urn.p_turn, eq_int, ne_int, eq_bool, ne_bool, ten18, ten15, lenF, runFn, obT, fn__law_pick, cd__law_pick, ho, h1, h4, fdiv_ok hm hb, mod_ok hm, pickR, ge_iff_le, gt_iff_lt, false_and]
    · simp only [at_bind, at_ok, at_er, at_no, at_var, at_k, at_op, at_un, at_lk, at_opt, at_nil, at_cons, at_b, at_lks0, at_lks1, at_test, at_toTs0, at_toTs1, at_toTv, at_toTf, at_toTl, at_notT, ltl0, ltl1, ltl2, ltl3, ltl4, ltl5, ltl6, ltl7, ltl8, ltl9, ltl10, ltl11, ltl12, ltl13, ltl14, ltl15, ltl16, at_andT, at_orT, at_if, at_andV, at_orV, at_chain, at_set, at_drop, at_ret, at_pass, at_brk, at_cnt, at_ifS, at_seq, at_putv, at_putf, at_tup, at_lst, at_call, at_callK, at_args0, at_args1, at_argb, at_argt, at_callA, at_unp, at_btup, at_blst, at_bnil, at_bcons, at_bname, at_isi, at_notV, at_par, at_stabs0, at_stabs1, at_stabv, at_stabf, at_puts0, at_puts1, at_daug, at_store, at_chk, at_getE, at_setO, at_modE, at_meth, at_for, at_sval, at_rng1, at_sl, at_po0, at_po1, at_lc, at_dct, at_clear0, at_clear1, at_lc0, at_nox, at_yes, at_for0, at_aft_nx, at_aft_ct, at_aft_bk, at_aft_rt, at_wip0, at_wip1, Bool.and_true, look, List.getElem?_cons_zero, List.getElem?_cons_succ, List.getElem?_nil, List.set_cons_zero, List.set_cons_succ, List.set_nil, List.length_cons, List.length_nil, List.length_map, List.cons_append, List.nil_append, List.length_set, addF, subF, negF, ltF, leF, gtF, geF, isF, isnF, isNF, gcdF, absF, intF, iaddF, isiF, isi, Option.map_some, Option.map_none, Option.bind_some, Ob.data, keyT, List.map_cons, List.map_nil, argsS, bIdx, back, likeA, List.nodup_nil, List.nodup_cons, List.not_mem_nil, not_false_eq_true, and_self, and_true, true_and, if_true, if_false, ite_true, ite_false, ↓reduceIte, Bool.not_true, Bool.not_false, Bool.false_eq_true, decide_true, decide_false, Ev.finish, endOf, retOf, leave, enter, tagA, Ev.strip, retag, List.replicate, Nat.reduceAdd, Nat.reduceSub, Nat.reduceLT, Nat.reduceLeDiff, Nat.reduceEqDiff, permL, liftO, liftG, Urn.ty, Urn.st, Urn.lg, Urn.lo, eq_self, Urn.rt, line0, line1, line2, line3, line4, line5, line6, line7, line8, line9, line10, line11, line12, line13, line14, line15, line16, Urn.g_cells, Urn.g_at, Urn.g_deep, Urn.g_mix, Urn.g_turn, Urn.d_at, Urn.d_turn, Urn.p_at, Urn.p_deep, Urn.p_mix, Urn.p_turn, eq_int, ne_int, eq_bool, ne_bool, ten18, ten15, lenF, runFn, obT, fn__law_pick, cd__law_pick, ho, h1, h4, mod_ok hm, pickR, ge_iff_le, gt_iff_lt, mul_ok hx k27, mul_ok k15 t1, mod_ok z1, mul_ok (e1 _) (e1 _), fdiv_ok z2 k10, mod_ok z3, fdiv_ok z4 k7, false_and]
end K00
end P_M0

section P_M1
set_option Elab.async false
set_option linter.all false
set_option maxRecDepth 100000
namespace K00
open Ev
set_option autoImplicit false
/-- plain data of a depth -/
def Pl : Nat → T → Prop
  | 0, _ => False
  | _ + 1, .none => True
  | _ + 1, .bool _ => True
  | _ + 1, .int _ => True
  | _ + 1, .str x => PySem.SeqAt.shaped (.str x) = true
  | d + 1, .list ts => ts.length ≤ PySem.sizeLine ∧ ∀ t ∈ ts, Pl d t
  | d + 1, .tuple ts => ts.length ≤ PySem.sizeLine ∧ ∀ t ∈ ts, Pl d t
  | _ + 1, _ => False
theorem ix_list {ts : List T} {k : Nat} (h : k < ts.length) : ixF (.list ts) (.int (0 + (k : Int))) = some (.v ts[k]) := by
  have h2 : (k : Int) < ts.length := by omega
  simp [ixF, L2.atI, L2.ixN, h, h2]
theorem ix_tup {ts : List T} {k : Nat} (h : k < ts.length) : ixF (.tuple ts) (.int (0 + (k : Int))) = some (.v ts[k]) := by
  have h2 : (k : Int) < ts.length := by omega
  simp [ixF, L2.atI, L2.ixN, h, h2]
theorem bools_rep : ∀ ts : List T, boolsOf (ts.map fun _ => T.bool true) = some (ts.map fun _ => true)
  | [] => rfl
  | t :: ts => by simp [boolsOf, bools_rep ts]
theorem all_true (ts : List T) : allF [.list (ts.map fun _ => T.bool true)] = some (.v (.bool true)) := by
  simp only [allF, bools_rep, Option.map_some]
  congr 3
  simp
theorem rng_ok {n : Nat} (h : n ≤ PySem.sizeLine) : (-(2 ^ 62) ≤ (n : Int) ∧ (n : Int) < 2 ^ 62) = True := by
  have e : PySem.sizeLine < 2 ^ 62 := by decide +kernel
  refine eq_true ⟨by omega, ?_⟩
  have : (n : Int) < ((2 ^ 62 : Nat) : Int) := by omega
  simpa using this
theorem same_refl : ∀ (d m : Nat) (t : T), Pl d t → d ≤ m → callN Γ m "_law_same" [.v t, .v t] = .rt (.v (.bool true)) [.v t, .v t]
  | 0, _, _, h, _ => h.elim
  | d + 1, m, t, h, hm => by
    obtain ⟨n, rfl⟩ : ∃ n, m = n + 1 := ⟨m - 1, by omega⟩
    show runFn fn__law_same (callN Γ n) _ = _
    cases t with
    | none => simp only [at_bind, at_ok, at_er, at_no, at_var, at_k, at_op, at_un, at_lk, at_opt, at_nil, at_cons, at_b, at_lks0, at_lks1, at_test, at_toTs0, at_toTs1, at_toTv, at_toTf, at_toTl, at_notT, ltl0, ltl1, ltl2, ltl3, ltl4, ltl5, ltl6, ltl7, ltl8, ltl9, ltl10, ltl11, ltl12, ltl13, ltl14, ltl15, ltl16, at_andT, at_orT, at_if, at_andV, at_orV, at_chain, at_set, at_drop, at_ret, at_pass, at_brk, at_cnt, at_ifS, at_seq, at_putv, at_putf, at_tup, at_lst, at_call, at_callK, at_args0, at_args1, at_argb, at_argt, at_callA, at_unp, at_btup, at_blst, at_bnil, at_bcons, at_bname, at_isi, at_notV, at_par, at_stabs0, at_stabs1, at_stabv, at_stabf, at_puts0, at_puts1, at_daug, at_store, at_chk, at_getE, at_setO, at_modE, at_meth, at_for, at_sval, at_rng1, at_sl, at_po0, at_po1, at_lc, at_dct, at_clear0, at_clear1, at_lc0, at_nox, at_yes, at_for0, at_aft_nx, at_aft_ct, at_aft_bk, at_aft_rt, at_wip0, at_wip1, Bool.and_true, look, List.getElem?_cons_zero, List.getElem?_cons_succ, List.getElem?_nil, List.set_cons_zero, List.set_cons_succ, List.set_nil, List.length_cons, List.length_nil, List.length_map, List.cons_append, List.nil_append, List.length_set, addF, subF, negF, ltF, leF, gtF, geF, isF, isnF, isNF, gcdF, absF, intF, iaddF, isiF, isi, Option.map_some, Option.map_none, Option.bind_some, Ob.data, keyT, List.map_cons, List.map_nil, argsS, bIdx, back, likeA, List.nodup_nil, List.nodup_cons, List.not_mem_nil, not_false_eq_true, and_self, and_true, true_and, if_true, if_false, ite_true, ite_false, ↓reduceIte, Bool.not_true, Bool.not_false, Bool.false_eq_true, decide_true, decide_false, Ev.finish, endOf, retOf, leave, enter, tagA, Ev.strip, retag, List.replicate, Nat.reduceAdd, Nat.reduceSub, Nat.reduceLT, Nat.reduceLeDiff, Nat.reduceEqDiff, permL, liftO, liftG, Urn.ty, Urn.st, Urn.lg, Urn.lo, eq_self, Urn.rt, line0, line1, line2, line3, line4, line5, line6, line7, line8, line9, line10, line11, line12, line13, line14, line15, line16, Urn.g_cells, Urn.g_at, Urn.g_deep, Urn.g_mix, Urn.g_turn, Urn.d_at, Urn.d_turn, Urn.p_at, Urn.p_deep, Urn.p_mix, Urn.p_turn, eq_int, ne_int, eq_bool, ne_bool, ten18, ten15, lenF, runFn, obT, fn__law_same, cd__law_same]
    | bool b => simp only [at_bind, at_ok, at_er, at_no, at_var, at_k, at_op, at_un, at_lk, at_opt, at_nil, at_cons, at_b, at_lks0, at_lks1, at_test, at_toTs0, at_toTs1, at_toTv, at_toTf, at_toTl, at_notT, ltl0, ltl1, ltl2, ltl3, ltl4, ltl5, ltl6, ltl7, ltl8, ltl9, ltl10, ltl11, ltl12, ltl13, ltl14, ltl15, ltl16, at_andT, at_orT, at_if, at_andV, at_orV, at_chain, at_set, at_drop, at_ret, at_pass, at_brk, at_cnt, at_ifS, at_seq, at_putv, at_putf, at_tup, at_lst, at_call, at_callK, at_args0, at_args1, at_argb, at_argt, at_callA, at_unp, at_btup, at_blst, at_bnil, at_bcons, at_bname, at_isi, at_notV, at_par, at_stabs0, at_stabs1, at_stabv, at_stabf, at_puts0, at_puts1, at_daug, at_store, at_chk, at_getE, at_setO, at_modE, at_meth, at_for, at_sval, at_rng1, at_sl, at_po0, at_po1, at_lc, at_dct, at_clear0, at_clear1, at_lc0, at_nox, at_yes, at_for0, at_aft_nx, at_aft_ct, at_aft_bk, at_aft_rt, at_wip0, at_wip1, Bool.and_true, look, List.getElem?_cons_zero, List.getElem?_cons_succ, List.getElem?_nil, List.set_cons_zero, List.set_cons_succ, List.set_nil, List.length_cons, List.length_nil, List.length_map, List.cons_append, List.nil_append, List.length_set, addF, subF, negF, ltF, leF, gtF, geF, isF, isnF, isNF, gcdF, absF, intF, iaddF, isiF, isi, Option.map_some, Option.map_none, Option.bind_some, Ob.data, keyT, List.map_cons, List.map_nil, argsS, bIdx, back, likeA, List.nodup_nil, List.nodup_cons, List.not_mem_nil, not_false_eq_true, and_self, and_true, true_and, if_true, if_false, ite_true, ite_false, ↓reduceIte, Bool.not_true, Bool.not_false, Bool.false_eq_true, decide_true, decide_false, Ev.finish, endOf, retOf, leave, enter, tagA, Ev.strip, retag, List.replicate, Nat.reduceAdd, Nat.reduceSub, Nat.reduceLT, Nat.reduceLeDiff, Nat.reduceEqDiff, permL, liftO, liftG, Urn.ty, Urn.st, Urn.lg, Urn.lo, eq_self, Urn.rt, line0, line1, line2, line3, line4, line5, line6, line7, line8, line9, line10, line11, line12, line13, line14, line15, line16, Urn.g_cells, Urn.g_at, Urn.g_deep, Urn.g_mix, Urn.g_turn, Urn.d_at, Urn.d_turn, Urn.p_at, Urn.p_deep, Urn.p_mix, Urn.p_turn, eq_int, ne_int, eq_bool, ne_bool, ten18, ten15, lenF, runFn, obT, fn__law_same, cd__law_same]
    | int i => simp only [at_bind, at_ok, at_er, at_no, at_var, at_k, at_op, at_un, at_lk, at_opt, at_nil, at_cons, at_b, at_lks0, at_lks1, at_test, at_toTs0, at_toTs1, at_toTv, at_toTf, at_toTl, at_notT, ltl0, ltl1, ltl2, ltl3, ltl4, ltl5, ltl6, ltl7, ltl8, ltl9, ltl10, ltl11, ltl12, ltl13, ltl14, ltl15, ltl16, at_andT, at_orT, at_if, at_andV, at_orV, at_chain, at_set, at_drop, at_ret, at_pass, at_brk, at_cnt, at_ifS, at_seq, at_putv, at_putf, at_tup, at_lst, at_call, at_callK, at_args0, at_args1, at_argb, at_argt, at_callA, at_unp, at_btup, at_blst, at_bnil, at_bcons, at_bname, at_isi, at_notV, at_par, at_stabs0, at_stabs1, at_stabv, at_stabf, at_puts0, at_puts1, at_daug, at_store, at_chk, at_getE, at_setO, at_modE, at_meth, at_for, at_sval, at_rng1, at_sl, at_po0, at_po1, at_lc, at_dct, at_clear0, at_clear1, at_lc0, at_nox, at_yes, at_for0, at_aft_nx, at_aft_ct, at_aft_bk, at_aft_rt, at_wip0, at_wip1, Bool.and_true, look, List.getElem?_cons_zero, List.getElem?_cons_succ, List.getElem?_nil, List.set_cons_zero, List.set_cons_succ, List.set_nil, List.length_cons, List.length_nil, List.length_map, List.cons_append, List.nil_append, List.length_set, addF, subF, negF, ltF, leF, gtF, geF, isF, isnF, isNF, gcdF, absF, intF, iaddF, isiF, isi, Option.map_some, Option.map_none, Option.bind_some, Ob.data, keyT, List.map_cons, List.map_nil, argsS, bIdx, back, likeA, List.nodup_nil, List.nodup_cons, List.not_mem_nil, not_false_eq_true, and_self, and_true, true_and, if_true, if_false, ite_true, ite_false, ↓reduceIte, Bool.not_true, Bool.not_false, Bool.false_eq_true, decide_true, decide_false, Ev.finish, endOf, retOf, leave, enter, tagA, Ev.strip, retag, List.replicate, Nat.reduceAdd, Nat.reduceSub, Nat.reduceLT, Nat.reduceLeDiff, Nat.reduceEqDiff, permL, liftO, liftG, Urn.ty, Urn.st, Urn.lg, Urn.lo, eq_self, Urn.rt, line0, line1, line2, line3, line4, line5, line6, line7, line8, line9, line10, line11, line12, line13, line14, line15, line16, Urn.g_cells, Urn.g_at, Urn.g_deep, Urn.g_mix, Urn.g_turn, Urn.d_at, Urn.d_turn, Urn.p_at, Urn.p_deep, Urn.p_mix, Urn.p_turn, eq_int, ne_int, eq_bool, ne_bool, ten18, ten15, lenF, runFn, obT, fn__law_same, cd__law_same, eq_self]
    | str x =>
      have e : eqF (.str x) (.str x) = some (.v (.bool true)) := by
        have h1 : PySem.SeqAt.shaped (.str x) = true := h
        simp [eqF, eqT, T.pyO, h1, PySem.PyData.eqv]
      simp only [at_bind, at_ok, at_er, at_no, at_var, at_k, at_op, at_un, at_lk, at_opt, at_nil, at_cons, at_b, at_lks0, at_lks1, at_test, at_toTs0, at_toTs1, at_toTv, at_toTf, at_toTl, at_notT, ltl0, ltl1, ltl2, ltl3, ltl4, ltl5, ltl6, ltl7, ltl8, ltl9, ltl10, ltl11, ltl12, ltl13, ltl14, ltl15, ltl16, at_andT, at_orT, at_if, at_andV, at_orV, at_chain, at_set, at_drop, at_ret, at_pass, at_brk, at_cnt, at_ifS, at_seq, at_putv, at_putf, at_tup, at_lst, at_call, at_callK, at_args0, at_args1, at_argb, at_argt, at_callA, at_unp, at_btup, at_blst, at_bnil, at_bcons, at_bname, at_isi, at_notV, at_par, at_stabs0, at_stabs1, at_stabv, at_stabf, at_puts0, at_puts1, at_daug, at_store, at_chk, at_getE, at_setO, at_modE, at_meth, at_for, at_sval, at_rng1, at_sl, at_po0, at_po1, at_lc, at_dct, at_clear0, at_clear1, at_lc0, at_nox, at_yes, at_for0, at_aft_nx, at_aft_ct, at_aft_bk, at_aft_rt, at_wip0, at_wip1, Bool.and_true, look, List.getElem?_cons_zero, List.getElem?_cons_succ, List.getElem?_nil, List.set_cons_zero, List.set_cons_succ, List.set_nil, List.length_cons, List.length_nil, List.length_map, List.cons_append, List.nil_append, List.length_set, addF, subF, negF, ltF, leF, gtF, geF, isF, isnF, isNF, gcdF, absF, intF, iaddF, isiF, isi, Option.map_some, Option.map_none, Option.bind_some, Ob.data, keyT, List.map_cons, List.map_nil, argsS, bIdx, back, likeA, List.nodup_nil, List.nodup_cons, List.not_mem_nil, not_false_eq_true, and_self, and_true, true_and, if_true, if_false, ite_true, ite_false, ↓reduceIte, Bool.not_true, Bool.not_false, Bool.false_eq_true, decide_true, decide_false, Ev.finish, endOf, retOf, leave, enter, tagA, Ev.strip, retag, List.replicate, Nat.reduceAdd, Nat.reduceSub, Nat.reduceLT, Nat.reduceLeDiff, Nat.reduceEqDiff, permL, liftO, liftG, Urn.ty, Urn.st, Urn.lg, Urn.lo, eq_self, Urn.rt, line0, line1, line2, line3, line4, line5, line6, line7, line8, line9, line10, line11, line12, line13, line14, line15, line16, Urn.g_cells, Urn.g_at, Urn.g_deep, Urn.g_mix, Urn.g_turn, Urn.d_at, Urn.d_turn, Urn.p_at, Urn.p_deep, Urn.p_mix, Urn.p_turn, eq_int, ne_int, eq_bool, ne_bool, ten18, ten15, lenF, runFn, obT, fn__law_same, cd__law_same, e]
    | list ts =>
      obtain ⟨hl, hs⟩ := h
      have k : ∀ t' ∈ rngTs 0 ts.length, (mCall (callN Γ n) "_law_same" [false, false] (mCons (mOp ixF (mVar 0) (mVar 2)) (mCons (mOp ixF (mVar 1) (mVar 2)) mNil))) (([.v (.list ts), .v (.list ts), .non] : Sls).set 2 (.v t')) = .ok (.v ((fun _ => T.bool true) t')) (([.v (.list ts), .v (.list ts), .non] : Sls).set 2 (.v t')) := fun t' ht => by
        obtain ⟨k, hk, rfl⟩ := mem_rng ht
        have ih := same_refl d n ts[k] (hs _ (List.getElem_mem hk)) (by omega)
        simp only [at_bind, at_ok, at_er, at_no, at_var, at_k, at_op, at_un, at_lk, at_opt, at_nil, at_cons, at_b, at_lks0, at_lks1, at_test, at_toTs0, at_toTs1, at_toTv, at_toTf, at_toTl, at_notT, ltl0, ltl1, ltl2, ltl3, ltl4, ltl5, ltl6, ltl7, ltl8, ltl9, ltl10, ltl11, ltl12, ltl13, ltl14, ltl15, ltl16, at_andT, at_orT, at_if, at_andV, at_orV, at_chain, at_set, at_drop, at_ret, at_pass, at_brk, at_cnt, at_ifS, at_seq, at_putv, at_putf, at_tup, at_lst, at_call, at_callK, at_args0, at_args1, at_argb, at_argt, at_callA, at_unp, at_btup, at_blst, at_bnil, at_bcons, at_bname, at_isi, at_notV, at_par, at_stabs0, at_stabs1, at_stabv, at_stabf, at_puts0, at_puts1, at_daug, at_store, at_chk, at_getE, at_setO, at_modE, at_meth, at_for, at_sval, at_rng1, at_sl, at_po0, at_po1, at_lc, at_dct, at_clear0, at_clear1, at_lc0, at_nox, at_yes, at_for0, at_aft_nx, at_aft_ct, at_aft_bk, at_aft_rt, at_wip0, at_wip1, Bool.and_true, look, List.getElem?_cons_zero, List.getElem?_cons_succ, List.getElem?_nil, List.set_cons_zero, List.set_cons_succ, List.set_nil, List.length_cons, List.length_nil, List.length_map, List.cons_append, List.nil_append, List.length_set, addF, subF, negF, ltF, leF, gtF, geF, isF, isnF, isNF, gcdF, absF, intF, iaddF, isiF, isi, Option.map_some, Option.map_none, Option.bind_some, Ob.data, keyT, List.map_cons, List.map_nil, argsS, bIdx, back, likeA, List.nodup_nil, List.nodup_cons, List.not_mem_nil, not_false_eq_true, and_self, and_true, true_and, if_true, if_false, ite_true, ite_false, ↓reduceIte, Bool.not_true, Bool.not_false, Bool.false_eq_true, decide_true, decide_false, Ev.finish, endOf, retOf, leave, enter, tagA, Ev.strip, retag, List.replicate, Nat.reduceAdd, Nat.reduceSub, Nat.reduceLT, Nat.reduceLeDiff, Nat.reduceEqDiff, permL, liftO, liftG, Urn.ty, Urn.st, Urn.lg, Urn.lo, eq_self, Urn.rt, line0, line1, line2, line3, line4, line5, line6, line7, line8, line9, line10, line11, line12, line13, line14, line15, line16, Urn.g_cells, Urn.g_at, Urn.g_deep, Urn.g_mix, Urn.g_turn, Urn.d_at, Urn.d_turn, Urn.p_at, Urn.p_deep, Urn.p_mix, Urn.p_turn, eq_int, ne_int, eq_bool, ne_bool, ten18, ten15, lenF, runFn, obT, ix_list hk, ih]
      have l := lc_name (i := 2) (env := [.v (.list ts), .v (.list ts), .non]) rfl _ (rngTs 0 ts.length) [] k (by rw [rng_len]; simpa using hl)
      simp only [at_bind, at_ok, at_er, at_no, at_var, at_k, at_op, at_un, at_lk, at_opt, at_nil, at_cons, at_b, at_lks0, at_lks1, at_test, at_toTs0, at_toTs1, at_toTv, at_toTf, at_toTl, at_notT, ltl0, ltl1, ltl2, ltl3, ltl4, ltl5, ltl6, ltl7, ltl8, ltl9, ltl10, ltl11, ltl12, ltl13, ltl14, ltl15, ltl16, at_andT, at_orT, at_if, at_andV, at_orV, at_chain, at_set, at_drop, at_ret, at_pass, at_brk, at_cnt, at_ifS, at_seq, at_putv, at_putf, at_tup, at_lst, at_call, at_callK, at_args0, at_args1, at_argb, at_argt, at_callA, at_unp, at_btup, at_blst, at_bnil, at_bcons, at_bname, at_isi, at_notV, at_par, at_stabs0, at_stabs1, at_stabv, at_stabf, at_puts0, at_puts1, at_daug, at_store, at_chk, at_getE, at_setO, at_modE, at_meth, at_for, at_sval, at_rng1, at_sl, at_po0, at_po1, at_lc, at_dct, at_clear0, at_clear1, at_lc0, at_nox, at_yes, at_for0, at_aft_nx, at_aft_ct, at_aft_bk, at_aft_rt, at_wip0, at_wip1, Bool.and_true, look, List.getElem?_cons_zero, List.getElem?_cons_succ, List.getElem?_nil, List.set_cons_zero, List.set_cons_succ, List.set_nil, List.length_cons, List.length_nil, List.length_map, List.cons_append, List.nil_append, List.length_set, addF, subF, negF, ltF, leF, gtF, geF, isF, isnF, isNF, gcdF, absF, intF, iaddF, isiF, isi, Option.map_some, Option.map_none, Option.bind_some, Ob.data, keyT, List.map_cons, List.map_nil, argsS, bIdx, back, likeA, List.nodup_nil, List.nodup_cons, List.not_mem_nil, not_false_eq_true, and_self, and_true, true_and, if_true, if_false, ite_true, ite_false, ↓reduceIte, Bool.not_true, Bool.not_false, Bool.false_eq_true, decide_true, decide_false, Ev.finish, endOf, retOf, leave, enter, tagA, Ev.strip, retag, List.replicate, Nat.reduceAdd, Nat.reduceSub, Nat.reduceLT, Nat.reduceLeDiff, Nat.reduceEqDiff, permL, liftO, liftG, Urn.ty, Urn.st, Urn.lg, Urn.lo, eq_self, Urn.rt, line0, line1, line2, line3, line4, line5, line6, line7, line8, line9, line10, line11, line12, line13, line14, line15, line16, Urn.g_cells, Urn.g_at, Urn.g_deep, Urn.g_mix, Urn.g_turn, Urn.d_at, Urn.d_turn, Urn.p_at, Urn.p_deep, Urn.p_mix, Urn.p_turn, eq_int, ne_int, eq_bool, ne_bool, ten18, ten15, lenF, runFn, obT, fn__law_same, cd__law_same, rng_ok hl, Int.toNat_natCast, l, all_true]
    | tuple ts =>
      obtain ⟨hl, hs⟩ := h
      have k : ∀ t' ∈ rngTs 0 ts.length, (mCall (callN Γ n) "_law_same" [false, false] (mCons (mOp ixF (mVar 0) (mVar 2)) (mCons (mOp ixF (mVar 1) (mVar 2)) mNil))) (([.v (.tuple ts), .v (.tuple ts), .non] : Sls).set 2 (.v t')) = .ok (.v ((fun _ => T.bool true) t')) (([.v (.tuple ts), .v (.tuple ts), .non] : Sls).set 2 (.v t')) := fun t' ht => by
        obtain ⟨k, hk, rfl⟩ := mem_rng ht
        have ih := same_refl d n ts[k] (hs _ (List.getElem_mem hk)) (by omega)
        simp only [at_bind, at_ok, at_er, at_no, at_var, at_k, at_op, at_un, at_lk, at_opt, at_nil, at_cons, at_b, at_lks0, at_lks1, at_test, at_toTs0, at_toTs1, at_toTv, at_toTf, at_toTl, at_notT, ltl0, ltl1, ltl2, ltl3, ltl4, ltl5, ltl6, ltl7, ltl8, ltl9, ltl10, ltl11, ltl12, ltl13, ltl14, ltl15, ltl16, at_andT, at_orT, at_if, at_andV, at_orV, at_chain, at_set, at_drop, at_ret, at_pass, at_brk, at_cnt, at_ifS, at_seq, at_putv, at_putf, at_tup, at_lst, at_call, at_callK, at_args0, at_args1, at_argb, at_argt, at_callA, at_unp, at_btup, at_blst, at_bnil, at_bcons, at_bname, at_isi, at_notV, at_par, at_stabs0, at_stabs1, at_stabv, at_stabf, at_puts0, at_puts1, at_daug, at_store, at_chk, at_getE, at_setO, at_modE, at_meth, at_for, at_sval, at_rng1, at_sl, at_po0, at_po1, at_lc, at_dct, at_clear0, at_clear1, at_lc0, at_nox, at_yes, at_for0, at_aft_nx, at_aft_ct, at_aft_bk, at_aft_rt, at_wip0, at_wip1, Bool.and_true, look, List.getElem?_cons_zero, List.getElem?_cons_succ, List.getElem?_nil, List.set_cons_zero, List.set_cons_succ, List.set_nil, List.length_cons, List.length_nil, List.length_map, List.cons_append, List.nil_append, List.length_set, addF, subF, negF, ltF, leF, gtF, geF, isF, isnF, isNF, gcdF, absF, intF, iaddF, isiF, isi, Option.map_some, Option.map_none, Option.bind_some, Ob.data, keyT, List.map_cons, List.map_nil, argsS, bIdx, back, likeA, List.nodup_nil, List.nodup_cons, List.not_mem_nil, not_false_eq_true, and_self, and_true, true_and, if_true, if_false, ite_true, ite_false, ↓reduceIte, Bool.not_true, Bool.not_false, Bool.false_eq_true, decide_true, decide_false, Ev.finish, endOf, retOf, leave, enter, tagA, Ev.strip, retag, List.replicate, Nat.reduceAdd, Nat.reduceSub, Nat.reduceLT, Nat.reduceLeDiff, Nat.reduceEqDiff, permL, liftO, liftG, Urn.ty, Urn.st, Urn.lg, Urn.lo, eq_self, Urn.rt, line0, line1, line2, line3, line4, line5, line6, line7, line8, line9, line10, line11, line12, line13, line14, line15, line16, Urn.g_cells, Urn.g_at, Urn.g_deep, Urn.g_mix, Urn.g_turn, Urn.d_at, Urn.d_turn, Urn.p_at, Urn.p_deep, Urn.p_mix, Urn.p_turn, eq_int, ne_int, eq_bool, ne_bool, ten18, ten15, lenF, runFn, obT, ix_tup hk, ih]
      have l := lc_name (i := 2) (env := [.v (.tuple ts), .v (.tuple ts), .non]) rfl _ (rngTs 0 ts.length) [] k (by rw [rng_len]; simpa using hl)
      simp only [at_bind, at_ok, at_er, at_no, at_var, at_k, at_op, at_un, at_lk, at_opt, at_nil, at_cons, at_b, at_lks0, at_lks1, at_test, at_toTs0, at_toTs1, at_toTv, at_toTf, at_toTl, at_notT, ltl0, ltl1, ltl2, ltl3, ltl4, ltl5, ltl6, ltl7, ltl8, ltl9, ltl10, ltl11, ltl12, ltl13, ltl14, ltl15, ltl16, at_andT, at_orT, at_if, at_andV, at_orV, at_chain, at_set, at_drop, at_ret, at_pass, at_brk, at_cnt, at_ifS, at_seq, at_putv, at_putf, at_tup, at_lst, at_call, at_callK, at_args0, at_args1, at_argb, at_argt, at_callA, at_unp, at_btup, at_blst, at_bnil, at_bcons, at_bname, at_isi, at_notV, at_par, at_stabs0, at_stabs1, at_stabv, at_stabf, at_puts0, at_puts1, at_daug, at_store, at_chk, at_getE, at_setO, at_modE, at_meth, at_for, at_sval, at_rng1, at_sl, at_po0, at_po1, at_lc, at_dct, at_clear0, at_clear1, at_lc0, at_nox, at_yes, at_for0, at_aft_nx, at_aft_ct, at_aft_bk, at_aft_rt, at_wip0, at_wip1, Bool.and_true, look, List.getElem?_cons_zero, List.getElem?_cons_succ, List.getElem?_nil, List.set_cons_zero, List.set_cons_succ, List.set_nil, List.length_cons, List.length_nil, List.length_map, List.cons_append, List.nil_append, List.length_set, addF, subF, negF, ltF, leF, gtF, geF, isF, isnF, isNF, gcdF, absF, intF, iaddF, isiF, isi, Option.map_some, Option.map_none, Option.bind_some, Ob.data, keyT, List.map_cons, List.map_nil, argsS, bIdx, back, likeA, List.nodup_nil, List.nodup_cons, List.not_mem_nil, not_false_eq_true, and_self, and_true, true_and, if_true, if_false, ite_true, ite_false, ↓reduceIte, Bool.not_true, Bool.not_false, Bool.false_eq_true, decide_true, decide_false, Ev.finish, endOf, retOf, leave, enter, tagA, Ev.strip, retag, List.replicate, Nat.reduceAdd, Nat.reduceSub, Nat.reduceLT, Nat.reduceLeDiff, Nat.reduceEqDiff, permL, liftO, liftG, Urn.ty, Urn.st, Urn.lg, Urn.lo, eq_self, Urn.rt, line0, line1, line2, line3, line4, line5, line6, line7, line8, line9, line10, line11, line12, line13, line14, line15, line16, Urn.g_cells, Urn.g_at, Urn.g_deep, Urn.g_mix, Urn.g_turn, Urn.d_at, Urn.d_turn, Urn.p_at, Urn.p_deep, Urn.p_mix, Urn.p_turn, eq_int, ne_int, eq_bool, ne_bool, ten18, ten15, lenF, runFn, obT, fn__law_same, cd__law_same, rng_ok hl, Int.toNat_natCast, l, all_true]
    | dict _ => exact h.elim
    | ro _ => exact h.elim
    | fn _ => exact h.elim
end K00
end P_M1

section P_M2
set_option Elab.async false
set_option linter.all false
set_option maxRecDepth 100000
namespace K00
open Ev
set_option autoImplicit false
/-- the urn after at most k picks -/
structure UOk (k : Nat) (u : Urn) : Prop where
  at_ : 0 ≤ u.at_
  mix : Bd 100 u.mix
  t0 : 0 ≤ u.turn
  t1 : u.turn ≤ k
  cells : ∀ c ∈ u.cells, Bd 1048576 c
theorem fm_bd {n : Nat} (x : Int) (m : Int) (h : 0 < m) (hb : Bd n m) : Bd n (x.fmod m) := by
  have h0 := Int.fmod_nonneg_of_pos x h
  have h1 := Int.fmod_lt_of_pos x h
  exact hb.of_le (by omega)
theorem pick_ok {k : Nat} {u : Urn} {many : Int} (h : UOk k u) (hm : 0 < many) : 0 ≤ (pickR u many).1 ∧ (pickR u many).1 < many ∧ UOk (k + 1) (pickR u many).2 := by
  have z : Bd 100 4294967291 := by decide
  have f := fun x => fm_bd x 4294967291 (by decide) z
  have g1 := fun x => Int.fmod_nonneg_of_pos x hm
  have g2 := fun x => Int.fmod_lt_of_pos x hm
  obtain ⟨h1, h2, h3, h4, h5⟩ := h
  unfold pickR
  dsimp only
  split
  · split
    · split
      · exact ⟨g1 _, g2 _, by constructor <;> first | assumption | (simp; omega)⟩
      · exact ⟨g1 _, g2 _, by constructor <;> first | assumption | exact f _ | (simp; omega)⟩
    · split
      · exact ⟨g1 _, g2 _, by constructor <;> first | assumption | exact f _ | (simp; omega)⟩
      · exact ⟨g1 _, g2 _, by constructor <;> first | assumption | exact f _ | (simp; omega)⟩
  · split
    · exact ⟨g1 _, g2 _, by constructor <;> first | assumption | exact f _ | (simp; omega)⟩
    · exact ⟨g1 _, g2 _, by constructor <;> first | assumption | exact f _ | (simp; omega)⟩
theorem pick {m k : Nat} {u : Urn} {many : Int} {o : Ob} (hm : 1 ≤ m) (ho : strip o = u.ob) (h : UOk k u) (hk : k ≤ 1000000) (h0 : 0 < many) (hb : Bd 9000 many) :
    ∃ r u', callN Γ m "_law_pick" [.own o, .v (.int many)] = .rt (.v (.int r)) [.own (retag o u'.ob), .v (.int many)] ∧ 0 ≤ r ∧ r < many ∧ UOk (k + 1) u' := by
  obtain ⟨n, rfl⟩ : ∃ n, m = n + 1 := ⟨m - 1, by omega⟩
  obtain ⟨a, b, c⟩ := pick_ok h h0
  refine ⟨_, _, r_pick n u many o ho (by omega) hb h.at_ h.mix ?_ h.cells, a, b, c⟩
  have := h.t0
  have := h.t1
  show _ < 2 ^ 100
  have : (1000000 : Nat) < 2 ^ 100 := by decide
  omega
theorem size_ok {r : Int} (h0 : 0 ≤ r) (h1 : r < 4) : ∃ s : Int, ixF (.list [.int 4, .int 100, .int 1000, .int 1000000000000000]) (.int r) = some (.v (.int s)) ∧ 4 ≤ s ∧ s ≤ 1000000000000000 := by
  have : r = 0 ∨ r = 1 ∨ r = 2 ∨ r = 3 := by omega
  rcases this with rfl | rfl | rfl | rfl
  · exact ⟨4, rfl, by decide, by decide⟩
  · exact ⟨100, rfl, by decide, by decide⟩
  · exact ⟨1000, rfl, by decide, by decide⟩
  · exact ⟨1000000000000000, rfl, by decide, by decide⟩
theorem rt_rt (o : Ob) (x y : Ob) : retag (retag o x) y = retag o (retag x y) := by
  induction o with
  | tg j o ih => simp only [retag, ih]
  | lst => rfl
  | dct => rfl
theorem st_rt (o : Ob) (x : Ob) : strip (retag o x) = strip x := by
  induction o with
  | tg j o ih => simp only [retag, strip, ih]
  | lst => rfl
  | dct => rfl
theorem integer {m k : Nat} {u : Urn} {o : Ob} (hm : 2 ≤ m) (ho : strip o = u.ob) (h : UOk k u) (hk : k + 2 ≤ 1000000) :
    ∃ (i : Int) (u' : Urn), callN Γ m "_law_integer" [.own o] = .rt (.v (.int i)) [.own (retag o u'.ob)] ∧ i.natAbs ≤ 1000000000000000 ∧ UOk (k + 2) u' := by
  obtain ⟨n, rfl⟩ : ∃ n, m = n + 1 := ⟨m - 1, by omega⟩
  obtain ⟨r, u1, e1, r0, r1, k1⟩ := pick (m := n) (o := .tg 0 u.ob) (by omega) rfl h (by omega) (show (0 : Int) < 4 by decide) (by decide)
  obtain ⟨s, e2, s0, s1⟩ := size_ok r0 r1
  have hs : Bd 60 s := by
    have : Bd 60 1000000000000000 := by decide
    exact this.of_le (by omega)
  have h2 : Bd 60 2 := by decide
  obtain ⟨q, u2, e3, q0, q1, k2⟩ := pick (m := n) (o := .tg 0 u1.ob) (many := 2 * s + 1) (by omega) rfl k1 (by omega) (by omega) (((h2.mul hs).add (by decide)).mono (by decide))
  refine ⟨q - s, u2, ?_, by omega, k2⟩
  show runFn fn__law_integer (callN Γ n) _ = _
  simp only [at_bind, at_ok, at_er, at_no, at_var, at_k, at_op, at_un, at_lk, at_opt, at_nil, at_cons, at_b, at_lks0, at_lks1, at_test, at_toTs0, at_toTs1, at_toTv, at_toTf, at_toTl, at_notT, ltl0, ltl1, ltl2, ltl3, ltl4, ltl5, ltl6, ltl7, ltl8, ltl9, ltl10, ltl11, ltl12, ltl13, ltl14, ltl15, ltl16, at_andT, at_orT, at_if, at_andV, at_orV, at_chain, at_set, at_drop, at_ret, at_pass, at_brk, at_cnt, at_ifS, at_seq, at_putv, at_putf, at_tup, at_lst, at_call, at_callK, at_args0, at_args1, at_argb, at_argt, at_callA, at_unp, at_btup, at_blst, at_bnil, at_bcons, at_bname, at_isi, at_notV, at_par, at_stabs0, at_stabs1, at_stabv, at_stabf, at_puts0, at_puts1, at_daug, at_store, at_chk, at_getE, at_setO, at_modE, at_meth, at_for, at_sval, at_rng1, at_sl, at_po0, at_po1, at_lc, at_dct, at_clear0, at_clear1, at_lc0, at_nox, at_yes, at_for0, at_aft_nx, at_aft_ct, at_aft_bk, at_aft_rt, at_wip0, at_wip1, Bool.and_true, look, List.getElem?_cons_zero, List.getElem?_cons_succ, List.getElem?_nil, List.set_cons_zero, List.set_cons_succ, List.set_nil, List.length_cons, List.length_nil, List.length_map, List.cons_append, List.nil_append, List.length_set, addF, subF, negF, ltF, leF, gtF, geF, isF, isnF, isNF, gcdF, absF, intF, iaddF, isiF, isi, Option.map_some, Option.map_none, Option.bind_some, Ob.data, keyT, List.map_cons, List.map_nil, argsS, bIdx, back, likeA, List.nodup_nil, List.nodup_cons, List.not_mem_nil, not_false_eq_true, and_self, and_true, true_and, if_true, if_false, ite_true, ite_false, ↓reduceIte, Bool.not_true, Bool.not_false, Bool.false_eq_true, decide_true, decide_false, Ev.finish, endOf, retOf, leave, enter, tagA, Ev.strip, retag, List.replicate, Nat.reduceAdd, Nat.reduceSub, Nat.reduceLT, Nat.reduceLeDiff, Nat.reduceEqDiff, permL, liftO, liftG, Urn.ty, Urn.st, Urn.lg, Urn.lo, eq_self, Urn.rt, line0, line1, line2, line3, line4, line5, line6, line7, line8, line9, line10, line11, line12, line13, line14, line15, line16, Urn.g_cells, Urn.g_at, Urn.g_deep, Urn.g_mix, Urn.g_turn, Urn.d_at, Urn.d_turn, Urn.p_at, Urn.p_deep, Urn.p_mix, Urn.p_turn, eq_int, ne_int, eq_bool, ne_bool, ten18, ten15, lenF, runFn, obT, fn__law_integer, cd__law_integer, ho, e1, e2, e3, mul_ok h2 hs]
end K00
end P_M2

section P_M3
set_option Elab.async false
set_option linter.all false
set_option maxRecDepth 100000
namespace K00
open Ev
set_option autoImplicit false
theorem fmod_nat (x y : Nat) : (x : Int).fmod (y : Int) = ((x % y : Nat) : Int) := by
  rw [Int.fmod_eq_emod_of_nonneg _ (by omega)]
  rfl
def eucB : MS := mSeq (mIfS (mTest (mOp eqF (mVar 3) (mK (.int 0)))) mBreak mPass)
    (mPar [2, 3] (mCons (mVar 3) (mCons (mOp modF (mB intF (mCons (mVar 2) mNil)) (mVar 3)) mNil)))
theorem euc1 {a b t : T} {s : Sl} {x y : Nat} (hy : ¬ (y : Int) = 0) (ts : List T) : forL (bName 4) eucB (t :: ts) [.v a, .v b, .v (.int x), .v (.int y), s, .non] = forL (bName 4) eucB ts [.v a, .v b, .v (.int y), .v (.int (x % y : Nat)), .v t, .non] := by
  rw [← fmod_nat]
  simp only [at_bind, at_ok, at_er, at_no, at_var, at_k, at_op, at_un, at_lk, at_opt, at_nil, at_cons, at_b, at_lks0, at_lks1, at_test, at_toTs0, at_toTs1, at_toTv, at_toTf, at_toTl, at_notT, ltl0, ltl1, ltl2, ltl3, ltl4, ltl5, ltl6, ltl7, ltl8, ltl9, ltl10, ltl11, ltl12, ltl13, ltl14, ltl15, ltl16, at_andT, at_orT, at_if, at_andV, at_orV, at_chain, at_set, at_drop, at_ret, at_pass, at_brk, at_cnt, at_ifS, at_seq, at_putv, at_putf, at_tup, at_lst, at_call, at_callK, at_args0, at_args1, at_argb, at_argt, at_callA, at_unp, at_btup, at_blst, at_bnil, at_bcons, at_bname, at_isi, at_notV, at_par, at_stabs0, at_stabs1, at_stabv, at_stabf, at_puts0, at_puts1, at_daug, at_store, at_chk, at_getE, at_setO, at_modE, at_meth, at_for, at_sval, at_rng1, at_sl, at_po0, at_po1, at_lc, at_dct, at_clear0, at_clear1, at_lc0, at_nox, at_yes, at_for0, at_aft_nx, at_aft_ct, at_aft_bk, at_aft_rt, at_wip0, at_wip1, Bool.and_true, look, List.getElem?_cons_zero, List.getElem?_cons_succ, List.getElem?_nil, List.set_cons_zero, List.set_cons_succ, List.set_nil, List.length_cons, List.length_nil, List.length_map, List.cons_append, List.nil_append, List.length_set, addF, subF, negF, ltF, leF, gtF, geF, isF, isnF, isNF, gcdF, absF, intF, iaddF, isiF, isi, Option.map_some, Option.map_none, Option.bind_some, Ob.data, keyT, List.map_cons, List.map_nil, argsS, bIdx, back, likeA, List.nodup_nil, List.nodup_cons, List.not_mem_nil, not_false_eq_true, and_self, and_true, true_and, if_true, if_false, ite_true, ite_false, ↓reduceIte, Bool.not_true, Bool.not_false, Bool.false_eq_true, decide_true, decide_false, Ev.finish, endOf, retOf, leave, enter, tagA, Ev.strip, retag, List.replicate, Nat.reduceAdd, Nat.reduceSub, Nat.reduceLT, Nat.reduceLeDiff, Nat.reduceEqDiff, permL, liftO, liftG, Urn.ty, Urn.st, Urn.lg, Urn.lo, eq_self, Urn.rt, line0, line1, line2, line3, line4, line5, line6, line7, line8, line9, line10, line11, line12, line13, line14, line15, line16, Urn.g_cells, Urn.g_at, Urn.g_deep, Urn.g_mix, Urn.g_turn, Urn.d_at, Urn.d_turn, Urn.p_at, Urn.p_deep, Urn.p_mix, Urn.p_turn, eq_int, ne_int, eq_bool, ne_bool, ten18, ten15, lenF, runFn, obT, at_for1, eucB, hy, mod_ok hy]
theorem euc0 {a b t : T} {s : Sl} {x : Nat} (ts : List T) : forL (bName 4) eucB (t :: ts) [.v a, .v b, .v (.int x), .v (.int ((0 : Nat) : Int)), s, .non] = .ok .nx [.v a, .v b, .v (.int x), .v (.int ((0 : Nat) : Int)), .v t, .non] := by
  have h : ((0 : Nat) : Int) = 0 := rfl
  rw [h]
  simp only [at_bind, at_ok, at_er, at_no, at_var, at_k, at_op, at_un, at_lk, at_opt, at_nil, at_cons, at_b, at_lks0, at_lks1, at_test, at_toTs0, at_toTs1, at_toTv, at_toTf, at_toTl, at_notT, ltl0, ltl1, ltl2, ltl3, ltl4, ltl5, ltl6, ltl7, ltl8, ltl9, ltl10, ltl11, ltl12, ltl13, ltl14, ltl15, ltl16, at_andT, at_orT, at_if, at_andV, at_orV, at_chain, at_set, at_drop, at_ret, at_pass, at_brk, at_cnt, at_ifS, at_seq, at_putv, at_putf, at_tup, at_lst, at_call, at_callK, at_args0, at_args1, at_argb, at_argt, at_callA, at_unp, at_btup, at_blst, at_bnil, at_bcons, at_bname, at_isi, at_notV, at_par, at_stabs0, at_stabs1, at_stabv, at_stabf, at_puts0, at_puts1, at_daug, at_store, at_chk, at_getE, at_setO, at_modE, at_meth, at_for, at_sval, at_rng1, at_sl, at_po0, at_po1, at_lc, at_dct, at_clear0, at_clear1, at_lc0, at_nox, at_yes, at_for0, at_aft_nx, at_aft_ct, at_aft_bk, at_aft_rt, at_wip0, at_wip1, Bool.and_true, look, List.getElem?_cons_zero, List.getElem?_cons_succ, List.getElem?_nil, List.set_cons_zero, List.set_cons_succ, List.set_nil, List.length_cons, List.length_nil, List.length_map, List.cons_append, List.nil_append, List.length_set, addF, subF, negF, ltF, leF, gtF, geF, isF, isnF, isNF, gcdF, absF, intF, iaddF, isiF, isi, Option.map_some, Option.map_none, Option.bind_some, Ob.data, keyT, List.map_cons, List.map_nil, argsS, bIdx, back, likeA, List.nodup_nil, List.nodup_cons, List.not_mem_nil, not_false_eq_true, and_self, and_true, true_and, if_true, if_false, ite_true, ite_false, ↓reduceIte, Bool.not_true, Bool.not_false, Bool.false_eq_true, decide_true, decide_false, Ev.finish, endOf, retOf, leave, enter, tagA, Ev.strip, retag, List.replicate, Nat.reduceAdd, Nat.reduceSub, Nat.reduceLT, Nat.reduceLeDiff, Nat.reduceEqDiff, permL, liftO, liftG, Urn.ty, Urn.st, Urn.lg, Urn.lo, eq_self, Urn.rt, line0, line1, line2, line3, line4, line5, line6, line7, line8, line9, line10, line11, line12, line13, line14, line15, line16, Urn.g_cells, Urn.g_at, Urn.g_deep, Urn.g_mix, Urn.g_turn, Urn.d_at, Urn.d_turn, Urn.p_at, Urn.p_deep, Urn.p_mix, Urn.p_turn, eq_int, ne_int, eq_bool, ne_bool, ten18, ten15, lenF, runFn, obT, at_for1, eucB, eq_self]
theorem euc {a b : T} : ∀ (j : Nat) (ts : List T) (x y : Nat) (s : Sl), y < 2 ^ j → 2 * j ≤ ts.length → ∃ s' y', forL (bName 4) eucB ts [.v a, .v b, .v (.int x), .v (.int y), s, .non] = .ok .nx [.v a, .v b, .v (.int (Nat.gcd x y : Nat)), y', s', .non]
  | j, ts, x, 0, s, h, hl => by
    rw [Nat.gcd_zero_right]
    cases ts with
    | nil => exact ⟨_, _, rfl⟩
    | cons t ts => exact ⟨_, _, euc0 ts⟩
  | 0, ts, x, y + 1, s, h, hl => by
    exfalso
    rw [Nat.pow_zero] at h
    omega
  | j + 1, ts, x, y + 1, s, h, hl => by
    match ts, hl with
    | [], hl => simp at hl
    | [_], hl => simp at hl; omega
    | t1 :: t2 :: ts, hl =>
      have g1 : Nat.gcd x (y + 1) = Nat.gcd (y + 1) (x % (y + 1)) := by rw [Nat.gcd_comm, Nat.gcd_rec, Nat.gcd_comm]
      rw [euc1 (by omega), g1]
      have lt : x % (y + 1) < y + 1 := Nat.mod_lt _ (by omega)
      generalize x % (y + 1) = r at lt
      cases r with
      | zero =>
        rw [Nat.gcd_zero_right]
        exact ⟨_, _, euc0 _⟩
      | succ r =>
        have g2 : Nat.gcd (y + 1) (r + 1) = Nat.gcd (r + 1) ((y + 1) % (r + 1)) := by rw [Nat.gcd_comm, Nat.gcd_rec, Nat.gcd_comm]
        rw [euc1 (by omega), g2]
        refine euc j ts (r + 1) ((y + 1) % (r + 1)) _ ?_ (by simp at hl; omega)
        have l1 : (y + 1) % (r + 1) < r + 1 := Nat.mod_lt _ (by omega)
        have l2 : (y + 1) % (r + 1) ≤ (y + 1) - (r + 1) := by
          rw [Nat.mod_eq_sub_mod (by omega)]
          exact Nat.mod_le _ _
        rw [Nat.pow_succ] at h
        omega
def gI (a b : Int) : Int := (Nat.gcd a.natAbs b.natAbs : Nat)
def sg (b : Int) : Int := if b < 0 then -1 else 1
/-- in lowest terms -/
def lowP (a b : Int) : Int := (sg b * a).fdiv (gI a b)
def lowQ (a b : Int) : Int := (sg b * b).fdiv (gI a b)
theorem gI_ne {a b : Int} (h : b ≠ 0) : gI a b ≠ 0 := by
  unfold gI
  have := Nat.gcd_pos_of_pos_right a.natAbs (show 0 < b.natAbs by omega)
  omega
theorem gI_bd {a b : Int} {k : Nat} (h : b ≠ 0) (hb : Bd k b) : Bd k (gI a b) := by
  unfold gI
  refine hb.of_le ?_
  have := Nat.le_of_dvd (show 0 < b.natAbs by omega) (Nat.gcd_dvd_right a.natAbs b.natAbs)
  simpa using this
theorem sg_bd (b : Int) : Bd 1 (sg b) := by unfold sg; split <;> decide
theorem abs_nat (a : Int) : (if a < 0 then -a else a) = (a.natAbs : Int) := by split <;> omega
theorem lowest {m : Nat} {a b : Int} (hm : 1 ≤ m) (hb : b ≠ 0) (ha : Bd 1000 a) (hc : Bd 1000 b) : callN Γ m "_law_lowest" [.v (.int a), .v (.int b)] = .rt (.v (.tuple [.int (lowP a b), .int (lowQ a b)])) [.v (.int a), .v (.int b)] := by
  obtain ⟨n, rfl⟩ : ∃ n, m = n + 1 := ⟨m - 1, by omega⟩
  show runFn fn__law_lowest (callN Γ n) _ = _
  obtain ⟨s', y', e⟩ := euc (a := .int a) (b := .int b) 1000 (rngTs 0 (Int.toNat 4000)) a.natAbs b.natAbs .non hc (by rw [rng_len]; decide)
  have r : (-(2 ^ 62) ≤ (4000 : Int) ∧ (4000 : Int) < 2 ^ 62) = True := eq_true (by decide)
  have g0 : ((a.natAbs.gcd b.natAbs : Nat) : Int) ≠ 0 := gI_ne hb
  have g1 : Bd 1000 ((a.natAbs.gcd b.natAbs : Nat) : Int) := gI_bd hb hc
  unfold eucB at e
  by_cases h : b < 0
  · have d1 := fdiv_ok (i := -1 * a) g0 g1
    have d2 := fdiv_ok (i := -1 * b) g0 g1
    have k1 : Bd 1 (-1) := by decide
    simp only [at_bind, at_ok, at_er, at_no, at_var, at_k, at_op, at_un, at_lk, at_opt, at_nil, at_cons, at_b, at_lks0, at_lks1, at_test, at_toTs0, at_toTs1, at_toTv, at_toTf, at_toTl, at_notT, ltl0, ltl1, ltl2, ltl3, ltl4, ltl5, ltl6, ltl7, ltl8, ltl9, ltl10, ltl11, ltl12, ltl13, ltl14, ltl15, ltl16, at_andT, at_orT, at_if, at_andV, at_orV, at_chain, at_set, at_drop, at_ret, at_pass, at_brk, at_cnt, at_ifS, at_seq, at_putv, at_putf, at_tup, at_lst, at_call, at_callK, at_args0, at_args1, at_argb, at_argt, at_callA, at_unp, at_btup, at_blst, at_bnil, at_bcons, at_bname, at_isi, at_notV, at_par, at_stabs0, at_stabs1, at_stabv, at_stabf, at_puts0, at_puts1, at_daug, at_store, at_chk, at_getE, at_setO, at_modE, at_meth, at_for, at_sval, at_rng1, at_sl, at_po0, at_po1, at_lc, at_dct, at_clear0, at_clear1, at_lc0, at_nox, at_yes, at_for0, at_aft_nx, at_aft_ct, at_aft_bk, at_aft_rt, at_wip0, at_wip1, Bool.and_true, look, List.getElem?_cons_zero, List.getElem?_cons_succ, List.getElem?_nil, List.set_cons_zero, List.set_cons_succ, List.set_nil, List.length_cons, List.length_nil, List.length_map, List.cons_append, List.nil_append, List.length_set, addF, subF, negF, ltF, leF, gtF, geF, isF, isnF, isNF, gcdF, absF, intF, iaddF, isiF, isi, Option.map_some, Option.map_none, Option.bind_some, Ob.data, keyT, List.map_cons, List.map_nil, argsS, bIdx, back, likeA, List.nodup_nil, List.nodup_cons, List.not_mem_nil, not_false_eq_true, and_self, and_true, true_and, if_true, if_false, ite_true, ite_false, ↓reduceIte, Bool.not_true, Bool.not_false, Bool.false_eq_true, decide_true, decide_false, Ev.finish, endOf, retOf, leave, enter, tagA, Ev.strip, retag, List.replicate, Nat.reduceAdd, Nat.reduceSub, Nat.reduceLT, Nat.reduceLeDiff, Nat.reduceEqDiff, permL, liftO, liftG, Urn.ty, Urn.st, Urn.lg, Urn.lo, eq_self, Urn.rt, line0, line1, line2, line3, line4, line5, line6, line7, line8, line9, line10, line11, line12, line13, line14, line15, line16, Urn.g_cells, Urn.g_at, Urn.g_deep, Urn.g_mix, Urn.g_turn, Urn.d_at, Urn.d_turn, Urn.p_at, Urn.p_deep, Urn.p_mix, Urn.p_turn, eq_int, ne_int, eq_bool, ne_bool, ten18, ten15, lenF, runFn, obT, fn__law_lowest, cd__law_lowest, abs_nat, r, e, h, mul_ok k1 ha, mul_ok k1 hc, d1, d2]
    simp only [lowP, lowQ, sg, h, if_true, gI]
  · have d1 := fdiv_ok (i := 1 * a) g0 g1
    have d2 := fdiv_ok (i := 1 * b) g0 g1
    have k1 : Bd 1 1 := by decide
    simp only [at_bind, at_ok, at_er, at_no, at_var, at_k, at_op, at_un, at_lk, at_opt, at_nil, at_cons, at_b, at_lks0, at_lks1, at_test, at_toTs0, at_toTs1, at_toTv, at_toTf, at_toTl, at_notT, ltl0, ltl1, ltl2, ltl3, ltl4, ltl5, ltl6, ltl7, ltl8, ltl9, ltl10, ltl11, ltl12, ltl13, ltl14, ltl15, ltl16, at_andT, at_orT, at_if, at_andV, at_orV, at_chain, at_set, at_drop, at_ret, at_pass, at_brk, at_cnt, at_ifS, at_seq, at_putv, at_putf, at_tup, at_lst, at_call, at_callK, at_args0, at_args1, at_argb, at_argt, at_callA, at_unp, at_btup, at_blst, at_bnil, at_bcons, at_bname, at_isi, at_notV, at_par, at_stabs0, at_stabs1, at_stabv, at_stabf, at_puts0, at_puts1, at_daug, at_store, at_chk, at_getE, at_setO, at_modE, at_meth, at_for, at_sval, at_rng1, at_sl, at_po0, at_po1, at_lc, at_dct, at_clear0, at_clear1, at_lc0, at_nox, at_yes, at_for0, at_aft_nx, at_aft_ct, at_aft_bk, at_aft_rt, at_wip0, at_wip1, Bool.and_true, look, List.getElem?_cons_zero, List.getElem?_cons_succ, List.getElem?_nil, List.set_cons_zero, List.set_cons_succ, List.set_nil, List.length_cons, List.length_nil, List.length_map, List.cons_append, List.nil_append, List.length_set, addF, subF, negF, ltF, leF, gtF, geF, isF, isnF, isNF, gcdF, absF, intF, iaddF, isiF, isi, Option.map_some, Option.map_none, Option.bind_some, Ob.data, keyT, List.map_cons, List.map_nil, argsS, bIdx, back, likeA, List.nodup_nil, List.nodup_cons, List.not_mem_nil, not_false_eq_true, and_self, and_true, true_and, if_true, if_false, ite_true, ite_false, ↓reduceIte, Bool.not_true, Bool.not_false, Bool.false_eq_true, decide_true, decide_false, Ev.finish, endOf, retOf, leave, enter, tagA, Ev.strip, retag, List.replicate, Nat.reduceAdd, Nat.reduceSub, Nat.reduceLT, Nat.reduceLeDiff, Nat.reduceEqDiff, permL, liftO, liftG, Urn.ty, Urn.st, Urn.lg, Urn.lo, eq_self, Urn.rt, line0, line1, line2, line3, line4, line5, line6, line7, line8, line9, line10, line11, line12, line13, line14, line15, line16, Urn.g_cells, Urn.g_at, Urn.g_deep, Urn.g_mix, Urn.g_turn, Urn.d_at, Urn.d_turn, Urn.p_at, Urn.p_deep, Urn.p_mix, Urn.p_turn, eq_int, ne_int, eq_bool, ne_bool, ten18, ten15, lenF, runFn, obT, fn__law_lowest, cd__law_lowest, abs_nat, r, e, h, mul_ok k1 ha, mul_ok k1 hc, d1, d2]
    simp only [lowP, lowQ, sg, h, if_false, gI]
end K00
end P_M3

section P_M4
set_option Elab.async false
set_option linter.all false
set_option maxRecDepth 100000
namespace K00
open Ev
set_option autoImplicit false
/-- a fraction in lowest terms -/
structure Red (k : Nat) (p q : Int) : Prop where
  pos : 1 ≤ q
  gcd : Nat.gcd p.natAbs q.natAbs = 1
  bp : Bd k p
  bq : Bd k q
theorem nat_gcd_div {a b : Nat} (h : 0 < b) : Nat.gcd (a / Nat.gcd a b) (b / Nat.gcd a b) = 1 := by
  have := Nat.gcd_pos_of_pos_right a h
  rw [Nat.gcd_div (Nat.gcd_dvd_left a b) (Nat.gcd_dvd_right a b), Nat.div_self this]
theorem fdiv_abs {x : Int} {g : Nat} (hg : 0 < g) (hd : g ∣ x.natAbs) : (x.fdiv (g : Int)).natAbs = x.natAbs / g := by
  obtain ⟨k, hk⟩ := hd
  have hx : x = (g : Int) * k ∨ x = -((g : Int) * k) := by
    rcases Int.natAbs_eq x with e | e
    · left; rw [e, hk]; simp
    · right; rw [e, hk]; simp
  have g0 : (g : Int) ≠ 0 := by omega
  have q : (g * k) / g = k := Nat.mul_div_cancel_left k hg
  rw [hk, q]
  rcases hx with e | e
  · rw [e, Int.mul_fdiv_cancel_left _ g0]; rfl
  · have e2 : x = (g : Int) * (-k) := by rw [e, Int.mul_neg]
    rw [e2, Int.mul_fdiv_cancel_left _ g0]; simp
theorem sg_abs (b x : Int) : (sg b * x).natAbs = x.natAbs := by
  unfold sg
  split
  · rw [Int.natAbs_mul]; simp
  · rw [Int.one_mul]
theorem low_red {k : Nat} {a b : Int} (hb : b ≠ 0) (ba : Bd k a) (bb : Bd k b) : Red k (lowP a b) (lowQ a b) := by
  have h0 : 0 < b.natAbs := by omega
  have hg := Nat.gcd_pos_of_pos_right a.natAbs h0
  have e1 : (lowP a b).natAbs = a.natAbs / Nat.gcd a.natAbs b.natAbs := by
    unfold lowP gI
    rw [fdiv_abs hg (by rw [sg_abs]; exact Nat.gcd_dvd_left _ _), sg_abs]
  have e2 : (lowQ a b).natAbs = b.natAbs / Nat.gcd a.natAbs b.natAbs := by
    unfold lowQ gI
    rw [fdiv_abs hg (by rw [sg_abs]; exact Nat.gcd_dvd_right _ _), sg_abs]
  refine ⟨?_, by rw [e1, e2]; exact nat_gcd_div h0, ?_, ?_⟩
  · have p : 0 < sg b * b := by
      unfold sg
      split <;> omega
    have g0 : (0 : Int) < gI a b := by unfold gI; omega
    have n0 : 0 ≤ lowQ a b := by
      unfold lowQ
      rw [Int.fdiv_eq_ediv_of_nonneg _ (by omega)]
      exact Int.ediv_nonneg (by omega) (by omega)
    have n1 : 0 < (lowQ a b).natAbs := by
      rw [e2]
      exact Nat.div_pos (Nat.le_of_dvd h0 (Nat.gcd_dvd_right _ _)) hg
    omega
  · exact ba.of_le (by rw [e1]; exact Nat.div_le_self _ _)
  · exact bb.of_le (by rw [e2]; exact Nat.div_le_self _ _)
theorem gI_neg (a b : Int) : gI (-a) (-b) = gI a b := by unfold gI; rw [Int.natAbs_neg, Int.natAbs_neg]
theorem made {m : Nat} {a b : Int} (hm : 1 ≤ m) (hb : b ≠ 0) (bb : Bd 9000 b) : callN Γ m "made" [.v (.int a), .v (.int b)] = .rt (.v (.tuple [.int (a.fdiv (gI a b)), .int (b.fdiv (gI a b))])) [.v (.int a), .v (.int b)] := by
  obtain ⟨n, rfl⟩ : ∃ n, m = n + 1 := ⟨m - 1, by omega⟩
  exact r_made n a b (gI_ne hb) (gI_bd hb bb)
theorem is_integer {m : Nat} (i : Int) (hm : 1 ≤ m) : callN Γ m "is_integer" [.v (.int i)] = .rt (.v (.bool true)) [.v (.int i)] := by
  obtain ⟨n, rfl⟩ : ∃ n, m = n + 1 := ⟨m - 1, by omega⟩
  exact r_is_integer n i
theorem is_integer_t {m : Nat} (ts : List T) (hm : 1 ≤ m) : callN Γ m "is_integer" [.v (.tuple ts)] = .rt (.v (.bool false)) [.v (.tuple ts)] := by
  obtain ⟨n, rfl⟩ : ∃ n, m = n + 1 := ⟨m - 1, by omega⟩
  show runFn fn_is_integer (callN Γ n) _ = _
  simp only [at_bind, at_ok, at_er, at_no, at_var, at_k, at_op, at_un, at_lk, at_opt, at_nil, at_cons, at_b, at_lks0, at_lks1, at_test, at_toTs0, at_toTs1, at_toTv, at_toTf, at_toTl, at_notT, ltl0, ltl1, ltl2, ltl3, ltl4, ltl5, ltl6, ltl7, ltl8, ltl9, ltl10, ltl11, ltl12, ltl13, ltl14, ltl15, ltl16, at_andT, at_orT, at_if, at_andV, at_orV, at_chain, at_set, at_drop, at_ret, at_pass, at_brk, at_cnt, at_ifS, at_seq, at_putv, at_putf, at_tup, at_lst, at_call, at_callK, at_args0, at_args1, at_argb, at_argt, at_callA, at_unp, at_btup, at_blst, at_bnil, at_bcons, at_bname, at_isi, at_notV, at_par, at_stabs0, at_stabs1, at_stabv, at_stabf, at_puts0, at_puts1, at_daug, at_store, at_chk, at_getE, at_setO, at_modE, at_meth, at_for, at_sval, at_rng1, at_sl, at_po0, at_po1, at_lc, at_dct, at_clear0, at_clear1, at_lc0, at_nox, at_yes, at_for0, at_aft_nx, at_aft_ct, at_aft_bk, at_aft_rt, at_wip0, at_wip1, Bool.and_true, look, List.getElem?_cons_zero, List.getElem?_cons_succ, List.getElem?_nil, List.set_cons_zero, List.set_cons_succ, List.set_nil, List.length_cons, List.length_nil, List.length_map, List.cons_append, List.nil_append, List.length_set, addF, subF, negF, ltF, leF, gtF, geF, isF, isnF, isNF, gcdF, absF, intF, iaddF, isiF, isi, Option.map_some, Option.map_none, Option.bind_some, Ob.data, keyT, List.map_cons, List.map_nil, argsS, bIdx, back, likeA, List.nodup_nil, List.nodup_cons, List.not_mem_nil, not_false_eq_true, and_self, and_true, true_and, if_true, if_false, ite_true, ite_false, ↓reduceIte, Bool.not_true, Bool.not_false, Bool.false_eq_true, decide_true, decide_false, Ev.finish, endOf, retOf, leave, enter, tagA, Ev.strip, retag, List.replicate, Nat.reduceAdd, Nat.reduceSub, Nat.reduceLT, Nat.reduceLeDiff, Nat.reduceEqDiff, permL, liftO, liftG, Urn.ty, Urn.st, Urn.lg, Urn.lo, eq_self, Urn.rt, line0, line1, line2, line3, line4, line5, line6, line7, line8, line9, line10, line11, line12, line13, line14, line15, line16, Urn.g_cells, Urn.g_at, Urn.g_deep, Urn.g_mix, Urn.g_turn, Urn.d_at, Urn.d_turn, Urn.p_at, Urn.p_deep, Urn.p_mix, Urn.p_turn, eq_int, ne_int, eq_bool, ne_bool, ten18, ten15, lenF, runFn, obT, fn_is_integer, cd_is_integer]
theorem fraction_of {m : Nat} {a b : Int} (hm : 2 ≤ m) (hb : b ≠ 0) (bb : Bd 9000 b) : callN Γ m "fraction_of" [.v (.int a), .v (.int b)] = .rt (.v (.tuple [.int (lowP a b), .int (lowQ a b)])) [.v (.int a), .v (.int b)] := by
  obtain ⟨n, rfl⟩ : ∃ n, m = n + 1 := ⟨m - 1, by omega⟩
  show runFn fn_fraction_of (callN Γ n) _ = _
  have i1 := is_integer (m := n) a (by omega)
  have i2 := is_integer (m := n) b (by omega)
  by_cases h : b < 0
  · have e := made (m := n) (a := -a) (b := -b) (by omega) (by omega) bb.neg
    simp only [at_bind, at_ok, at_er, at_no, at_var, at_k, at_op, at_un, at_lk, at_opt, at_nil, at_cons, at_b, at_lks0, at_lks1, at_test, at_toTs0, at_toTs1, at_toTv, at_toTf, at_toTl, at_notT, ltl0, ltl1, ltl2, ltl3, ltl4, ltl5, ltl6, ltl7, ltl8, ltl9, ltl10, ltl11, ltl12, ltl13, ltl14, ltl15, ltl16, at_andT, at_orT, at_if, at_andV, at_orV, at_chain, at_set, at_drop, at_ret, at_pass, at_brk, at_cnt, at_ifS, at_seq, at_putv, at_putf, at_tup, at_lst, at_call, at_callK, at_args0, at_args1, at_argb, at_argt, at_callA, at_unp, at_btup, at_blst, at_bnil, at_bcons, at_bname, at_isi, at_notV, at_par, at_stabs0, at_stabs1, at_stabv, at_stabf, at_puts0, at_puts1, at_daug, at_store, at_chk, at_getE, at_setO, at_modE, at_meth, at_for, at_sval, at_rng1, at_sl, at_po0, at_po1, at_lc, at_dct, at_clear0, at_clear1, at_lc0, at_nox, at_yes, at_for0, at_aft_nx, at_aft_ct, at_aft_bk, at_aft_rt, at_wip0, at_wip1, Bool.and_true, look, List.getElem?_cons_zero, List.getElem?_cons_succ, List.getElem?_nil, List.set_cons_zero, List.set_cons_succ, List.set_nil, List.length_cons, List.length_nil, List.length_map, List.cons_append, List.nil_append, List.length_set, addF, subF, negF, ltF, leF, gtF, geF, isF, isnF, isNF, gcdF, absF, intF, iaddF, isiF, isi, Option.map_some, Option.map_none, Option.bind_some, Ob.data, keyT, List.map_cons, List.map_nil, argsS, bIdx, back, likeA, List.nodup_nil, List.nodup_cons, List.not_mem_nil, not_false_eq_true, and_self, and_true, true_and, if_true, if_false, ite_true, ite_false, ↓reduceIte, Bool.not_true, Bool.not_false, Bool.false_eq_true, decide_true, decide_false, Ev.finish, endOf, retOf, leave, enter, tagA, Ev.strip, retag, List.replicate, Nat.reduceAdd, Nat.reduceSub, Nat.reduceLT, Nat.reduceLeDiff, Nat.reduceEqDiff, permL, liftO, liftG, Urn.ty, Urn.st, Urn.lg, Urn.lo, eq_self, Urn.rt, line0, line1, line2, line3, line4, line5, line6, line7, line8, line9, line10, line11, line12, line13, line14, line15, line16, Urn.g_cells, Urn.g_at, Urn.g_deep, Urn.g_mix, Urn.g_turn, Urn.d_at, Urn.d_turn, Urn.p_at, Urn.p_deep, Urn.p_mix, Urn.p_turn, eq_int, ne_int, eq_bool, ne_bool, ten18, ten15, lenF, runFn, obT, fn_fraction_of, cd_fraction_of, i1, i2, hb, h, e]
    simp only [lowP, lowQ, sg, h, if_true, gI_neg, Int.neg_one_mul]
  · have e := made (m := n) (a := a) (b := b) (by omega) (by omega) bb
    simp only [at_bind, at_ok, at_er, at_no, at_var, at_k, at_op, at_un, at_lk, at_opt, at_nil, at_cons, at_b, at_lks0, at_lks1, at_test, at_toTs0, at_toTs1, at_toTv, at_toTf, at_toTl, at_notT, ltl0, ltl1, ltl2, ltl3, ltl4, ltl5, ltl6, ltl7, ltl8, ltl9, ltl10, ltl11, ltl12, ltl13, ltl14, ltl15, ltl16, at_andT, at_orT, at_if, at_andV, at_orV, at_chain, at_set, at_drop, at_ret, at_pass, at_brk, at_cnt, at_ifS, at_seq, at_putv, at_putf, at_tup, at_lst, at_call, at_callK, at_args0, at_args1, at_argb, at_argt, at_callA, at_unp, at_btup, at_blst, at_bnil, at_bcons, at_bname, at_isi, at_notV, at_par, at_stabs0, at_stabs1, at_stabv, at_stabf, at_puts0, at_puts1, at_daug, at_store, at_chk, at_getE, at_setO, at_modE, at_meth, at_for, at_sval, at_rng1, at_sl, at_po0, at_po1, at_lc, at_dct, at_clear0, at_clear1, at_lc0, at_nox, at_yes, at_for0, at_aft_nx, at_aft_ct, at_aft_bk, at_aft_rt, at_wip0, at_wip1, Bool.and_true, look, List.getElem?_cons_zero, List.getElem?_cons_succ, List.getElem?_nil, List.set_cons_zero, List.set_cons_succ, List.set_nil, List.length_cons, List.length_nil, List.length_map, List.cons_append, List.nil_append, List.length_set, addF, subF, negF, ltF, leF, gtF, geF, isF, isnF, isNF, gcdF, absF, intF, iaddF, isiF, isi, Option.map_some, Option.map_none, Option.bind_some, Ob.data, keyT, List.map_cons, List.map_nil, argsS, bIdx, back, likeA, List.nodup_nil, List.nodup_cons, List.not_mem_nil, not_false_eq_true, and_self, and_true, true_and, if_true, if_false, ite_true, ite_false, ↓reduceIte, Bool.not_true, Bool.not_false, Bool.false_eq_true, decide_true, decide_false, Ev.finish, endOf, retOf, leave, enter, tagA, Ev.strip, retag, List.replicate, Nat.reduceAdd, Nat.reduceSub, Nat.reduceLT, Nat.reduceLeDiff, Nat.reduceEqDiff, permL, liftO, liftG, Urn.ty, Urn.st, Urn.lg, Urn.lo, eq_self, Urn.rt, line0, line1, line2, line3, line4, line5, line6, line7, line8, line9, line10, line11, line12, line13, line14, line15, line16, Urn.g_cells, Urn.g_at, Urn.g_deep, Urn.g_mix, Urn.g_turn, Urn.d_at, Urn.d_turn, Urn.p_at, Urn.p_deep, Urn.p_mix, Urn.p_turn, eq_int, ne_int, eq_bool, ne_bool, ten18, ten15, lenF, runFn, obT, fn_fraction_of, cd_fraction_of, i1, i2, hb, h, e]
    simp only [lowP, lowQ, sg, h, if_false, Int.one_mul]
theorem is_fraction {m k : Nat} {p q : Int} (hm : 2 ≤ m) (h : Red k p q) : callN Γ m "is_fraction" [.v (.tuple [.int p, .int q])] = .rt (.v (.bool true)) [.v (.tuple [.int p, .int q])] := by
  obtain ⟨n, rfl⟩ : ∃ n, m = n + 1 := ⟨m - 1, by omega⟩
  show runFn fn_is_fraction (callN Γ n) _ = _
  have i1 := is_integer (m := n) p (by omega)
  have i2 := is_integer (m := n) q (by omega)
  have e := h.gcd
  have l := h.pos
  simp only [at_bind, at_ok, at_er, at_no, at_var, at_k, at_op, at_un, at_lk, at_opt, at_nil, at_cons, at_b, at_lks0, at_lks1, at_test, at_toTs0, at_toTs1, at_toTv, at_toTf, at_toTl, at_notT, ltl0, ltl1, ltl2, ltl3, ltl4, ltl5, ltl6, ltl7, ltl8, ltl9, ltl10, ltl11, ltl12, ltl13, ltl14, ltl15, ltl16, at_andT, at_orT, at_if, at_andV, at_orV, at_chain, at_set, at_drop, at_ret, at_pass, at_brk, at_cnt, at_ifS, at_seq, at_putv, at_putf, at_tup, at_lst, at_call, at_callK, at_args0, at_args1, at_argb, at_argt, at_callA, at_unp, at_btup, at_blst, at_bnil, at_bcons, at_bname, at_isi, at_notV, at_par, at_stabs0, at_stabs1, at_stabv, at_stabf, at_puts0, at_puts1, at_daug, at_store, at_chk, at_getE, at_setO, at_modE, at_meth, at_for, at_sval, at_rng1, at_sl, at_po0, at_po1, at_lc, at_dct, at_clear0, at_clear1, at_lc0, at_nox, at_yes, at_for0, at_aft_nx, at_aft_ct, at_aft_bk, at_aft_rt, at_wip0, at_wip1, Bool.and_true, look, List.getElem?_cons_zero, List.getElem?_cons_succ, List.getElem?_nil, List.set_cons_zero, List.set_cons_succ, List.set_nil, List.length_cons, List.length_nil, List.length_map, List.cons_append, List.nil_append, List.length_set, addF, subF, negF, ltF, leF, gtF, geF, isF, isnF, isNF, gcdF, absF, intF, iaddF, isiF, isi, Option.map_some, Option.map_none, Option.bind_some, Ob.data, keyT, List.map_cons, List.map_nil, argsS, bIdx, back, likeA, List.nodup_nil, List.nodup_cons, List.not_mem_nil, not_false_eq_true, and_self, and_true, true_and, if_true, if_false, ite_true, ite_false, ↓reduceIte, Bool.not_true, Bool.not_false, Bool.false_eq_true, decide_true, decide_false, Ev.finish, endOf, retOf, leave, enter, tagA, Ev.strip, retag, List.replicate, Nat.reduceAdd, Nat.reduceSub, Nat.reduceLT, Nat.reduceLeDiff, Nat.reduceEqDiff, permL, liftO, liftG, Urn.ty, Urn.st, Urn.lg, Urn.lo, eq_self, Urn.rt, line0, line1, line2, line3, line4, line5, line6, line7, line8, line9, line10, line11, line12, line13, line14, line15, line16, Urn.g_cells, Urn.g_at, Urn.g_deep, Urn.g_mix, Urn.g_turn, Urn.d_at, Urn.d_turn, Urn.p_at, Urn.p_deep, Urn.p_mix, Urn.p_turn, eq_int, ne_int, eq_bool, ne_bool, ten18, ten15, lenF, runFn, obT, fn_is_fraction, cd_is_fraction, i1, i2, e, l, Int.natCast_one, eq_self, Int.cast_ofNat_Int, Int.reduceEq, ne_eq]
theorem check_fraction {m k : Nat} {p q : Int} (hm : 3 ≤ m) (h : Red k p q) : callN Γ m "check_fraction" [.v (.tuple [.int p, .int q])] = .rt (.v .none) [.v (.tuple [.int p, .int q])] := by
  obtain ⟨n, rfl⟩ : ∃ n, m = n + 1 := ⟨m - 1, by omega⟩
  show runFn fn_check_fraction (callN Γ n) _ = _
  have e := is_fraction (m := n) (by omega) h
  simp only [at_bind, at_ok, at_er, at_no, at_var, at_k, at_op, at_un, at_lk, at_opt, at_nil, at_cons, at_b, at_lks0, at_lks1, at_test, at_toTs0, at_toTs1, at_toTv, at_toTf, at_toTl, at_notT, ltl0, ltl1, ltl2, ltl3, ltl4, ltl5, ltl6, ltl7, ltl8, ltl9, ltl10, ltl11, ltl12, ltl13, ltl14, ltl15, ltl16, at_andT, at_orT, at_if, at_andV, at_orV, at_chain, at_set, at_drop, at_ret, at_pass, at_brk, at_cnt, at_ifS, at_seq, at_putv, at_putf, at_tup, at_lst, at_call, at_callK, at_args0, at_args1, at_argb, at_argt, at_callA, at_unp, at_btup, at_blst, at_bnil, at_bcons, at_bname, at_isi, at_notV, at_par, at_stabs0, at_stabs1, at_stabv, at_stabf, at_puts0, at_puts1, at_daug, at_store, at_chk, at_getE, at_setO, at_modE, at_meth, at_for, at_sval, at_rng1, at_sl, at_po0, at_po1, at_lc, at_dct, at_clear0, at_clear1, at_lc0, at_nox, at_yes, at_for0, at_aft_nx, at_aft_ct, at_aft_bk, at_aft_rt, at_wip0, at_wip1, Bool.and_true, look, List.getElem?_cons_zero, List.getElem?_cons_succ, List.getElem?_nil, List.set_cons_zero, List.set_cons_succ, List.set_nil, List.length_cons, List.length_nil, List.length_map, List.cons_append, List.nil_append, List.length_set, addF, subF, negF, ltF, leF, gtF, geF, isF, isnF, isNF, gcdF, absF, intF, iaddF, isiF, isi, Option.map_some, Option.map_none, Option.bind_some, Ob.data, keyT, List.map_cons, List.map_nil, argsS, bIdx, back, likeA, List.nodup_nil, List.nodup_cons, List.not_mem_nil, not_false_eq_true, and_self, and_true, true_and, if_true, if_false, ite_true, ite_false, ↓reduceIte, Bool.not_true, Bool.not_false, Bool.false_eq_true, decide_true, decide_false, Ev.finish, endOf, retOf, leave, enter, tagA, Ev.strip, retag, List.replicate, Nat.reduceAdd, Nat.reduceSub, Nat.reduceLT, Nat.reduceLeDiff, Nat.reduceEqDiff, permL, liftO, liftG, Urn.ty, Urn.st, Urn.lg, Urn.lo, eq_self, Urn.rt, line0, line1, line2, line3, line4, line5, line6, line7, line8, line9, line10, line11, line12, line13, line14, line15, line16, Urn.g_cells, Urn.g_at, Urn.g_deep, Urn.g_mix, Urn.g_turn, Urn.d_at, Urn.d_turn, Urn.p_at, Urn.p_deep, Urn.p_mix, Urn.p_turn, eq_int, ne_int, eq_bool, ne_bool, ten18, ten15, lenF, runFn, obT, fn_check_fraction, cd_check_fraction, e]
end K00
end P_M4

section P_M5
set_option Elab.async false
set_option linter.all false
set_option maxRecDepth 100000
namespace K00
open Ev
set_option autoImplicit false
theorem ix0 (a b : T) : ixF (.tuple [a, b]) (.int 0) = some (.v a) := id rfl
theorem ix1 (a b : T) : ixF (.tuple [a, b]) (.int 1) = some (.v b) := id rfl
theorem Red.mono {j k : Nat} {p q : Int} (h : Red j p q) (l : j ≤ k) : Red k p q := ⟨h.pos, h.gcd, h.bp.mono l, h.bq.mono l⟩
/-- a pair -/
abbrev fr (p q : Int) : T := .tuple [.int p, .int q]
theorem low_pos {a b : Int} (h : 0 < b) : lowP a b = a.fdiv (gI a b) ∧ lowQ a b = b.fdiv (gI a b) := by
  have : ¬ b < 0 := by omega
  simp only [lowP, lowQ, sg, this, if_false, Int.one_mul, and_self]
section
variable {m : Nat} {p q r s : Int}
theorem plus (hm : 2 ≤ m) (h : Red 400 p q) (g : Red 400 r s) : callN Γ m "plus" [.v (fr p q), .v (fr r s)] = .rt (.v (fr (lowP (p * s + r * q) (q * s)) (lowQ (p * s + r * q) (q * s)))) [.v (fr p q), .v (fr r s)] := by
  obtain ⟨n, rfl⟩ : ∃ n, m = n + 1 := ⟨m - 1, by omega⟩
  show runFn fn_plus (callN Γ n) _ = _
  have h0 := h.pos
  have g0 := g.pos
  have pos : 0 < q * s := Int.mul_pos (by omega) (by omega)
  have e := made (m := n) (a := p * s + r * q) (b := q * s) (by omega) (by omega) ((h.bq.mul g.bq).mono (by decide))
  obtain ⟨e1, e2⟩ := low_pos (a := p * s + r * q) pos
  rw [e1, e2]
  simp only [at_bind, at_ok, at_er, at_no, at_var, at_k, at_op, at_un, at_lk, at_opt, at_nil, at_cons, at_b, at_lks0, at_lks1, at_test, at_toTs0, at_toTs1, at_toTv, at_toTf, at_toTl, at_notT, ltl0, ltl1, ltl2, ltl3, ltl4, ltl5, ltl6, ltl7, ltl8, ltl9, ltl10, ltl11, ltl12, ltl13, ltl14, ltl15, ltl16, at_andT, at_orT, at_if, at_andV, at_orV, at_chain, at_set, at_drop, at_ret, at_pass, at_brk, at_cnt, at_ifS, at_seq, at_putv, at_putf, at_tup, at_lst, at_call, at_callK, at_args0, at_args1, at_argb, at_argt, at_callA, at_unp, at_btup, at_blst, at_bnil, at_bcons, at_bname, at_isi, at_notV, at_par, at_stabs0, at_stabs1, at_stabv, at_stabf, at_puts0, at_puts1, at_daug, at_store, at_chk, at_getE, at_setO, at_modE, at_meth, at_for, at_sval, at_rng1, at_sl, at_po0, at_po1, at_lc, at_dct, at_clear0, at_clear1, at_lc0, at_nox, at_yes, at_for0, at_aft_nx, at_aft_ct, at_aft_bk, at_aft_rt, at_wip0, at_wip1, Bool.and_true, look, List.getElem?_cons_zero, List.getElem?_cons_succ, List.getElem?_nil, List.set_cons_zero, List.set_cons_succ, List.set_nil, List.length_cons, List.length_nil, List.length_map, List.cons_append, List.nil_append, List.length_set, addF, subF, negF, ltF, leF, gtF, geF, isF, isnF, isNF, gcdF, absF, intF, iaddF, isiF, isi, Option.map_some, Option.map_none, Option.bind_some, Ob.data, keyT, List.map_cons, List.map_nil, argsS, bIdx, back, likeA, List.nodup_nil, List.nodup_cons, List.not_mem_nil, not_false_eq_true, and_self, and_true, true_and, if_true, if_false, ite_true, ite_false, ↓reduceIte, Bool.not_true, Bool.not_false, Bool.false_eq_true, decide_true, decide_false, Ev.finish, endOf, retOf, leave, enter, tagA, Ev.strip, retag, List.replicate, Nat.reduceAdd, Nat.reduceSub, Nat.reduceLT, Nat.reduceLeDiff, Nat.reduceEqDiff, permL, liftO, liftG, Urn.ty, Urn.st, Urn.lg, Urn.lo, eq_self, Urn.rt, line0, line1, line2, line3, line4, line5, line6, line7, line8, line9, line10, line11, line12, line13, line14, line15, line16, Urn.g_cells, Urn.g_at, Urn.g_deep, Urn.g_mix, Urn.g_turn, Urn.d_at, Urn.d_turn, Urn.p_at, Urn.p_deep, Urn.p_mix, Urn.p_turn, eq_int, ne_int, eq_bool, ne_bool, ten18, ten15, lenF, runFn, obT, fn_plus, cd_plus, ix0, ix1, mul_ok h.bp g.bq, mul_ok g.bp h.bq, mul_ok h.bq g.bq, e]
theorem scaled (hm : 2 ≤ m) (h : Red 400 p q) (g : Red 400 r s) : callN Γ m "scaled" [.v (fr p q), .v (fr r s)] = .rt (.v (fr (lowP (p * r) (q * s)) (lowQ (p * r) (q * s)))) [.v (fr p q), .v (fr r s)] := by
  obtain ⟨n, rfl⟩ : ∃ n, m = n + 1 := ⟨m - 1, by omega⟩
  show runFn fn_scaled (callN Γ n) _ = _
  have h0 := h.pos
  have g0 := g.pos
  have pos : 0 < q * s := Int.mul_pos (by omega) (by omega)
  have e := made (m := n) (a := p * r) (b := q * s) (by omega) (by omega) ((h.bq.mul g.bq).mono (by decide))
  obtain ⟨e1, e2⟩ := low_pos (a := p * r) pos
  rw [e1, e2]
  simp only [at_bind, at_ok, at_er, at_no, at_var, at_k, at_op, at_un, at_lk, at_opt, at_nil, at_cons, at_b, at_lks0, at_lks1, at_test, at_toTs0, at_toTs1, at_toTv, at_toTf, at_toTl, at_notT, ltl0, ltl1, ltl2, ltl3, ltl4, ltl5, ltl6, ltl7, ltl8, ltl9, ltl10, ltl11, ltl12, ltl13, ltl14, ltl15, ltl16, at_andT, at_orT, at_if, at_andV, at_orV, at_chain, at_set, at_drop, at_ret, at_pass, at_brk, at_cnt, at_ifS, at_seq, at_putv, at_putf, at_tup, at_lst, at_call, at_callK, at_args0, at_args1, at_argb, at_argt, at_callA, at_unp, at_btup, at_blst, at_bnil, at_bcons, at_bname, at_isi, at_notV, at_par, at_stabs0, at_stabs1, at_stabv, at_stabf, at_puts0, at_puts1, at_daug, at_store, at_chk, at_getE, at_setO, at_modE, at_meth, at_for, at_sval, at_rng1, at_sl, at_po0, at_po1, at_lc, at_dct, at_clear0, at_clear1, at_lc0, at_nox, at_yes, at_for0, at_aft_nx, at_aft_ct, at_aft_bk, at_aft_rt, at_wip0, at_wip1, Bool.and_true, look, List.getElem?_cons_zero, List.getElem?_cons_succ, List.getElem?_nil, List.set_cons_zero, List.set_cons_succ, List.set_nil, List.length_cons, List.length_nil, List.length_map, List.cons_append, List.nil_append, List.length_set, addF, subF, negF, ltF, leF, gtF, geF, isF, isnF, isNF, gcdF, absF, intF, iaddF, isiF, isi, Option.map_some, Option.map_none, Option.bind_some, Ob.data, keyT, List.map_cons, List.map_nil, argsS, bIdx, back, likeA, List.nodup_nil, List.nodup_cons, List.not_mem_nil, not_false_eq_true, and_self, and_true, true_and, if_true, if_false, ite_true, ite_false, ↓reduceIte, Bool.not_true, Bool.not_false, Bool.false_eq_true, decide_true, decide_false, Ev.finish, endOf, retOf, leave, enter, tagA, Ev.strip, retag, List.replicate, Nat.reduceAdd, Nat.reduceSub, Nat.reduceLT, Nat.reduceLeDiff, Nat.reduceEqDiff, permL, liftO, liftG, Urn.ty, Urn.st, Urn.lg, Urn.lo, eq_self, Urn.rt, line0, line1, line2, line3, line4, line5, line6, line7, line8, line9, line10, line11, line12, line13, line14, line15, line16, Urn.g_cells, Urn.g_at, Urn.g_deep, Urn.g_mix, Urn.g_turn, Urn.d_at, Urn.d_turn, Urn.p_at, Urn.p_deep, Urn.p_mix, Urn.p_turn, eq_int, ne_int, eq_bool, ne_bool, ten18, ten15, lenF, runFn, obT, fn_scaled, cd_scaled, ix0, ix1, mul_ok h.bp g.bp, mul_ok h.bq g.bq, e]
theorem add (hm : 4 ≤ m) (h : Red 400 p q) (g : Red 400 r s) : callN Γ m "add" [.v (fr p q), .v (fr r s)] = .rt (.v (fr (lowP (p * s + r * q) (q * s)) (lowQ (p * s + r * q) (q * s)))) [.v (fr p q), .v (fr r s)] := by
  obtain ⟨n, rfl⟩ : ∃ n, m = n + 1 := ⟨m - 1, by omega⟩
  show runFn fn_add (callN Γ n) _ = _
  have e1 := check_fraction (m := n) (by omega) h
  have e2 := check_fraction (m := n) (by omega) g
  have e3 := plus (m := n) (by omega) h g
  simp only [at_bind, at_ok, at_er, at_no, at_var, at_k, at_op, at_un, at_lk, at_opt, at_nil, at_cons, at_b, at_lks0, at_lks1, at_test, at_toTs0, at_toTs1, at_toTv, at_toTf, at_toTl, at_notT, ltl0, ltl1, ltl2, ltl3, ltl4, ltl5, ltl6, ltl7, ltl8, ltl9, ltl10, ltl11, ltl12, ltl13, ltl14, ltl15, ltl16, at_andT, at_orT, at_if, at_andV, at_orV, at_chain, at_set, at_drop, at_ret, at_pass, at_brk, at_cnt, at_ifS, at_seq, at_putv, at_putf, at_tup, at_lst, at_call, at_callK, at_args0, at_args1, at_argb, at_argt, at_callA, at_unp, at_btup, at_blst, at_bnil, at_bcons, at_bname, at_isi, at_notV, at_par, at_stabs0, at_stabs1, at_stabv, at_stabf, at_puts0, at_puts1, at_daug, at_store, at_chk, at_getE, at_setO, at_modE, at_meth, at_for, at_sval, at_rng1, at_sl, at_po0, at_po1, at_lc, at_dct, at_clear0, at_clear1, at_lc0, at_nox, at_yes, at_for0, at_aft_nx, at_aft_ct, at_aft_bk, at_aft_rt, at_wip0, at_wip1, Bool.and_true, look, List.getElem?_cons_zero, List.getElem?_cons_succ, List.getElem?_nil, List.set_cons_zero, List.set_cons_succ, List.set_nil, List.length_cons, List.length_nil, List.length_map, List.cons_append, List.nil_append, List.length_set, addF, subF, negF, ltF, leF, gtF, geF, isF, isnF, isNF, gcdF, absF, intF, iaddF, isiF, isi, Option.map_some, Option.map_none, Option.bind_some, Ob.data, keyT, List.map_cons, List.map_nil, argsS, bIdx, back, likeA, List.nodup_nil, List.nodup_cons, List.not_mem_nil, not_false_eq_true, and_self, and_true, true_and, if_true, if_false, ite_true, ite_false, ↓reduceIte, Bool.not_true, Bool.not_false, Bool.false_eq_true, decide_true, decide_false, Ev.finish, endOf, retOf, leave, enter, tagA, Ev.strip, retag, List.replicate, Nat.reduceAdd, Nat.reduceSub, Nat.reduceLT, Nat.reduceLeDiff, Nat.reduceEqDiff, permL, liftO, liftG, Urn.ty, Urn.st, Urn.lg, Urn.lo, eq_self, Urn.rt, line0, line1, line2, line3, line4, line5, line6, line7, line8, line9, line10, line11, line12, line13, line14, line15, line16, Urn.g_cells, Urn.g_at, Urn.g_deep, Urn.g_mix, Urn.g_turn, Urn.d_at, Urn.d_turn, Urn.p_at, Urn.p_deep, Urn.p_mix, Urn.p_turn, eq_int, ne_int, eq_bool, ne_bool, ten18, ten15, lenF, runFn, obT, fn_add, cd_add, e1, e2, e3]
theorem multiply (hm : 4 ≤ m) (h : Red 400 p q) (g : Red 400 r s) : callN Γ m "multiply" [.v (fr p q), .v (fr r s)] = .rt (.v (fr (lowP (p * r) (q * s)) (lowQ (p * r) (q * s)))) [.v (fr p q), .v (fr r s)] := by
  obtain ⟨n, rfl⟩ : ∃ n, m = n + 1 := ⟨m - 1, by omega⟩
  show runFn fn_multiply (callN Γ n) _ = _
  have e1 := check_fraction (m := n) (by omega) h
  have e2 := check_fraction (m := n) (by omega) g
  have e3 := scaled (m := n) (by omega) h g
  simp only [at_bind, at_ok, at_er, at_no, at_var, at_k, at_op, at_un, at_lk, at_opt, at_nil, at_cons, at_b, at_lks0, at_lks1, at_test, at_toTs0, at_toTs1, at_toTv, at_toTf, at_toTl, at_notT, ltl0, ltl1, ltl2, ltl3, ltl4, ltl5, ltl6, ltl7, ltl8, ltl9, ltl10, ltl11, ltl12, ltl13, ltl14, ltl15, ltl16, at_andT, at_orT, at_if, at_andV, at_orV, at_chain, at_set, at_drop, at_ret, at_pass, at_brk, at_cnt, at_ifS, at_seq, at_putv, at_putf, at_tup, at_lst, at_call, at_callK, at_args0, at_args1, at_argb, at_argt, at_callA, at_unp, at_btup, at_blst, at_bnil, at_bcons, at_bname, at_isi, at_notV, at_par, at_stabs0, at_stabs1, at_stabv, at_stabf, at_puts0, at_puts1, at_daug, at_store, at_chk, at_getE, at_setO, at_modE, at_meth, at_for, at_sval, at_rng1, at_sl, at_po0, at_po1, at_lc, at_dct, at_clear0, at_clear1, at_lc0, at_nox, at_yes, at_for0, at_aft_nx, at_aft_ct, at_aft_bk, at_aft_rt, at_wip0, at_wip1, Bool.and_true, look, List.getElem?_cons_zero, List.getElem?_cons_succ, List.getElem?_nil, List.set_cons_zero, List.set_cons_succ, List.set_nil, List.length_cons, List.length_nil, List.length_map, List.cons_append, List.nil_append, List.length_set, addF, subF, negF, ltF, leF, gtF, geF, isF, isnF, isNF, gcdF, absF, intF, iaddF, isiF, isi, Option.map_some, Option.map_none, Option.bind_some, Ob.data, keyT, List.map_cons, List.map_nil, argsS, bIdx, back, likeA, List.nodup_nil, List.nodup_cons, List.not_mem_nil, not_false_eq_true, and_self, and_true, true_and, if_true, if_false, ite_true, ite_false, ↓reduceIte, Bool.not_true, Bool.not_false, Bool.false_eq_true, decide_true, decide_false, Ev.finish, endOf, retOf, leave, enter, tagA, Ev.strip, retag, List.replicate, Nat.reduceAdd, Nat.reduceSub, Nat.reduceLT, Nat.reduceLeDiff, Nat.reduceEqDiff, permL, liftO, liftG, Urn.ty, Urn.st, Urn.lg, Urn.lo, eq_self, Urn.rt, line0, line1, line2, line3, line4, line5, line6, line7, line8, line9, line10, line11, line12, line13, line14, line15, line16, Urn.g_cells, Urn.g_at, Urn.g_deep, Urn.g_mix, Urn.g_turn, Urn.d_at, Urn.d_turn, Urn.p_at, Urn.p_deep, Urn.p_mix, Urn.p_turn, eq_int, ne_int, eq_bool, ne_bool, ten18, ten15, lenF, runFn, obT, fn_multiply, cd_multiply, e1, e2, e3]
theorem is_less (hm : 1 ≤ m) (h : Red 400 p q) (g : Red 400 r s) : callN Γ m "is_less" [.v (fr p q), .v (fr r s)] = .rt (.v (.bool (decide (p * s < r * q)))) [.v (fr p q), .v (fr r s)] := by
  obtain ⟨n, rfl⟩ : ∃ n, m = n + 1 := ⟨m - 1, by omega⟩
  show runFn fn_is_less (callN Γ n) _ = _
  simp only [at_bind, at_ok, at_er, at_no, at_var, at_k, at_op, at_un, at_lk, at_opt, at_nil, at_cons, at_b, at_lks0, at_lks1, at_test, at_toTs0, at_toTs1, at_toTv, at_toTf, at_toTl, at_notT, ltl0, ltl1, ltl2, ltl3, ltl4, ltl5, ltl6, ltl7, ltl8, ltl9, ltl10, ltl11, ltl12, ltl13, ltl14, ltl15, ltl16, at_andT, at_orT, at_if, at_andV, at_orV, at_chain, at_set, at_drop, at_ret, at_pass, at_brk, at_cnt, at_ifS, at_seq, at_putv, at_putf, at_tup, at_lst, at_call, at_callK, at_args0, at_args1, at_argb, at_argt, at_callA, at_unp, at_btup, at_blst, at_bnil, at_bcons, at_bname, at_isi, at_notV, at_par, at_stabs0, at_stabs1, at_stabv, at_stabf, at_puts0, at_puts1, at_daug, at_store, at_chk, at_getE, at_setO, at_modE, at_meth, at_for, at_sval, at_rng1, at_sl, at_po0, at_po1, at_lc, at_dct, at_clear0, at_clear1, at_lc0, at_nox, at_yes, at_for0, at_aft_nx, at_aft_ct, at_aft_bk, at_aft_rt, at_wip0, at_wip1, Bool.and_true, look, List.getElem?_cons_zero, List.getElem?_cons_succ, List.getElem?_nil, List.set_cons_zero, List.set_cons_succ, List.set_nil, List.length_cons, List.length_nil, List.length_map, List.cons_append, List.nil_append, List.length_set, addF, subF, negF, ltF, leF, gtF, geF, isF, isnF, isNF, gcdF, absF, intF, iaddF, isiF, isi, Option.map_some, Option.map_none, Option.bind_some, Ob.data, keyT, List.map_cons, List.map_nil, argsS, bIdx, back, likeA, List.nodup_nil, List.nodup_cons, List.not_mem_nil, not_false_eq_true, and_self, and_true, true_and, if_true, if_false, ite_true, ite_false, ↓reduceIte, Bool.not_true, Bool.not_false, Bool.false_eq_true, decide_true, decide_false, Ev.finish, endOf, retOf, leave, enter, tagA, Ev.strip, retag, List.replicate, Nat.reduceAdd, Nat.reduceSub, Nat.reduceLT, Nat.reduceLeDiff, Nat.reduceEqDiff, permL, liftO, liftG, Urn.ty, Urn.st, Urn.lg, Urn.lo, eq_self, Urn.rt, line0, line1, line2, line3, line4, line5, line6, line7, line8, line9, line10, line11, line12, line13, line14, line15, line16, Urn.g_cells, Urn.g_at, Urn.g_deep, Urn.g_mix, Urn.g_turn, Urn.d_at, Urn.d_turn, Urn.p_at, Urn.p_deep, Urn.p_mix, Urn.p_turn, eq_int, ne_int, eq_bool, ne_bool, ten18, ten15, lenF, runFn, obT, fn_is_less, cd_is_less, ix0, ix1, mul_ok h.bp g.bq, mul_ok g.bp h.bq]
/-- which way the gap goes -/
def ord (gap : Int) : Int := if gap < 0 then -1 else if 0 < gap then 1 else 0
theorem red_eq (h : Red 400 p q) (g : Red 400 r s) (e : p * s = r * q) : p = r ∧ q = s := by
  have h0 := h.pos
  have g0 := g.pos
  have e1 : p.natAbs * s.natAbs = r.natAbs * q.natAbs := by rw [← Int.natAbs_mul, e, Int.natAbs_mul]
  have d1 : q.natAbs ∣ s.natAbs := by
    have : q.natAbs ∣ p.natAbs * s.natAbs := by rw [e1]; exact Nat.dvd_mul_left _ _
    exact Nat.Coprime.dvd_of_dvd_mul_left (by rw [Nat.Coprime, Nat.gcd_comm]; exact h.gcd) this
  have d2 : s.natAbs ∣ q.natAbs := by
    have : s.natAbs ∣ r.natAbs * q.natAbs := by rw [← e1]; exact Nat.dvd_mul_left _ _
    exact Nat.Coprime.dvd_of_dvd_mul_left (by rw [Nat.Coprime, Nat.gcd_comm]; exact g.gcd) this
  have e2 := Nat.dvd_antisymm d1 d2
  have e3 : q = s := by omega
  subst e3
  exact ⟨Int.eq_of_mul_eq_mul_right (by omega) e, rfl⟩
theorem compare (hm : 4 ≤ m) (h : Red 400 p q) (g : Red 400 r s) : callN Γ m "compare" [.v (fr p q), .v (fr r s)] = .rt (.v (.int (ord (p * s - r * q)))) [.v (fr p q), .v (fr r s)] := by
  obtain ⟨n, rfl⟩ : ∃ n, m = n + 1 := ⟨m - 1, by omega⟩
  show runFn fn_compare (callN Γ n) _ = _
  have e1 := check_fraction (m := n) (by omega) h
  have e2 := check_fraction (m := n) (by omega) g
  have e3 := is_less (m := n) (by omega) h g
  by_cases c : p = r ∧ q = s
  · have o : ord (p * s - r * q) = 0 := by
      obtain ⟨rfl, rfl⟩ := c
      unfold ord
      split
      · omega
      · split
        · omega
        · rfl
    rw [o]
    simp only [at_bind, at_ok, at_er, at_no, at_var, at_k, at_op, at_un, at_lk, at_opt, at_nil, at_cons, at_b, at_lks0, at_lks1, at_test, at_toTs0, at_toTs1, at_toTv, at_toTf, at_toTl, at_notT, ltl0, ltl1, ltl2, ltl3, ltl4, ltl5, ltl6, ltl7, ltl8, ltl9, ltl10, ltl11, ltl12, ltl13, ltl14, ltl15, ltl16, at_andT, at_orT, at_if, at_andV, at_orV, at_chain, at_set, at_drop, at_ret, at_pass, at_brk, at_cnt, at_ifS, at_seq, at_putv, at_putf, at_tup, at_lst, at_call, at_callK, at_args0, at_args1, at_argb, at_argt, at_callA, at_unp, at_btup, at_blst, at_bnil, at_bcons, at_bname, at_isi, at_notV, at_par, at_stabs0, at_stabs1, at_stabv, at_stabf, at_puts0, at_puts1, at_daug, at_store, at_chk, at_getE, at_setO, at_modE, at_meth, at_for, at_sval, at_rng1, at_sl, at_po0, at_po1, at_lc, at_dct, at_clear0, at_clear1, at_lc0, at_nox, at_yes, at_for0, at_aft_nx, at_aft_ct, at_aft_bk, at_aft_rt, at_wip0, at_wip1, Bool.and_true, look, List.getElem?_cons_zero, List.getElem?_cons_succ, List.getElem?_nil, List.set_cons_zero, List.set_cons_succ, List.set_nil, List.length_cons, List.length_nil, List.length_map, List.cons_append, List.nil_append, List.length_set, addF, subF, negF, ltF, leF, gtF, geF, isF, isnF, isNF, gcdF, absF, intF, iaddF, isiF, isi, Option.map_some, Option.map_none, Option.bind_some, Ob.data, keyT, List.map_cons, List.map_nil, argsS, bIdx, back, likeA, List.nodup_nil, List.nodup_cons, List.not_mem_nil, not_false_eq_true, and_self, and_true, true_and, if_true, if_false, ite_true, ite_false, ↓reduceIte, Bool.not_true, Bool.not_false, Bool.false_eq_true, decide_true, decide_false, Ev.finish, endOf, retOf, leave, enter, tagA, Ev.strip, retag, List.replicate, Nat.reduceAdd, Nat.reduceSub, Nat.reduceLT, Nat.reduceLeDiff, Nat.reduceEqDiff, permL, liftO, liftG, Urn.ty, Urn.st, Urn.lg, Urn.lo, eq_self, Urn.rt, line0, line1, line2, line3, line4, line5, line6, line7, line8, line9, line10, line11, line12, line13, line14, line15, line16, Urn.g_cells, Urn.g_at, Urn.g_deep, Urn.g_mix, Urn.g_turn, Urn.d_at, Urn.d_turn, Urn.p_at, Urn.p_deep, Urn.p_mix, Urn.p_turn, eq_int, ne_int, eq_bool, ne_bool, ten18, ten15, lenF, runFn, obT, fn_compare, cd_compare, e1, e2, eq_pair, c]
  · have ne : p * s ≠ r * q := fun e => c (red_eq h g e)
    by_cases l : p * s < r * q
    · have o : ord (p * s - r * q) = -1 := if_pos (by omega)
      rw [o]
      simp only [at_bind, at_ok, at_er, at_no, at_var, at_k, at_op, at_un, at_lk, at_opt, at_nil, at_cons, at_b, at_lks0, at_lks1, at_test, at_toTs0, at_toTs1, at_toTv, at_toTf, at_toTl, at_notT, ltl0, ltl1, ltl2, ltl3, ltl4, ltl5, ltl6, ltl7, ltl8, ltl9, ltl10, ltl11, ltl12, ltl13, ltl14, ltl15, ltl16, at_andT, at_orT, at_if, at_andV, at_orV, at_chain, at_set, at_drop, at_ret, at_pass, at_brk, at_cnt, at_ifS, at_seq, at_putv, at_putf, at_tup, at_lst, at_call, at_callK, at_args0, at_args1, at_argb, at_argt, at_callA, at_unp, at_btup, at_blst, at_bnil, at_bcons, at_bname, at_isi, at_notV, at_par, at_stabs0, at_stabs1, at_stabv, at_stabf, at_puts0, at_puts1, at_daug, at_store, at_chk, at_getE, at_setO, at_modE, at_meth, at_for, at_sval, at_rng1, at_sl, at_po0, at_po1, at_lc, at_dct, at_clear0, at_clear1, at_lc0, at_nox, at_yes, at_for0, at_aft_nx, at_aft_ct, at_aft_bk, at_aft_rt, at_wip0, at_wip1, Bool.and_true, look, List.getElem?_cons_zero, List.getElem?_cons_succ, List.getElem?_nil, List.set_cons_zero, List.set_cons_succ, List.set_nil, List.length_cons, List.length_nil, List.length_map, List.cons_append, List.nil_append, List.length_set, addF, subF, negF, ltF, leF, gtF, geF, isF, isnF, isNF, gcdF, absF, intF, iaddF, isiF, isi, Option.map_some, Option.map_none, Option.bind_some, Ob.data, keyT, List.map_cons, List.map_nil, argsS, bIdx, back, likeA, List.nodup_nil, List.nodup_cons, List.not_mem_nil, not_false_eq_true, and_self, and_true, true_and, if_true, if_false, ite_true, ite_false, ↓reduceIte, Bool.not_true, Bool.not_false, Bool.false_eq_true, decide_true, decide_false, Ev.finish, endOf, retOf, leave, enter, tagA, Ev.strip, retag, List.replicate, Nat.reduceAdd, Nat.reduceSub, Nat.reduceLT, Nat.reduceLeDiff, Nat.reduceEqDiff, permL, liftO, liftG, Urn.ty, Urn.st, Urn.lg, Urn.lo, eq_self, Urn.rt, line0, line1, line2, line3, line4, line5, line6, line7, line8, line9, line10, line11, line12, line13, line14, line15, line16, Urn.g_cells, Urn.g_at, Urn.g_deep, Urn.g_mix, Urn.g_turn, Urn.d_at, Urn.d_turn, Urn.p_at, Urn.p_deep, Urn.p_mix, Urn.p_turn, eq_int, ne_int, eq_bool, ne_bool, ten18, ten15, lenF, runFn, obT, fn_compare, cd_compare, e1, e2, eq_pair, c, e3, l]
    · have o : ord (p * s - r * q) = 1 := by
        unfold ord
        rw [if_neg (by omega), if_pos (by omega)]
      rw [o]
      simp only [at_bind, at_ok, at_er, at_no, at_var, at_k, at_op, at_un, at_lk, at_opt, at_nil, at_cons, at_b, at_lks0, at_lks1, at_test, at_toTs0, at_toTs1, at_toTv, at_toTf, at_toTl, at_notT, ltl0, ltl1, ltl2, ltl3, ltl4, ltl5, ltl6, ltl7, ltl8, ltl9, ltl10, ltl11, ltl12, ltl13, ltl14, ltl15, ltl16, at_andT, at_orT, at_if, at_andV, at_orV, at_chain, at_set, at_drop, at_ret, at_pass, at_brk, at_cnt, at_ifS, at_seq, at_putv, at_putf, at_tup, at_lst, at_call, at_callK, at_args0, at_args1, at_argb, at_argt, at_callA, at_unp, at_btup, at_blst, at_bnil, at_bcons, at_bname, at_isi, at_notV, at_par, at_stabs0, at_stabs1, at_stabv, at_stabf, at_puts0, at_puts1, at_daug, at_store, at_chk, at_getE, at_setO, at_modE, at_meth, at_for, at_sval, at_rng1, at_sl, at_po0, at_po1, at_lc, at_dct, at_clear0, at_clear1, at_lc0, at_nox, at_yes, at_for0, at_aft_nx, at_aft_ct, at_aft_bk, at_aft_rt, at_wip0, at_wip1, Bool.and_true, look, List.getElem?_cons_zero, List.getElem?_cons_succ, List.getElem?_nil, List.set_cons_zero, List.set_cons_succ, List.set_nil, List.length_cons, List.length_nil, List.length_map, List.cons_append, List.nil_append, List.length_set, addF, subF, negF, ltF, leF, gtF, geF, isF, isnF, isNF, gcdF, absF, intF, iaddF, isiF, isi, Option.map_some, Option.map_none, Option.bind_some, Ob.data, keyT, List.map_cons, List.map_nil, argsS, bIdx, back, likeA, List.nodup_nil, List.nodup_cons, List.not_mem_nil, not_false_eq_true, and_self, and_true, true_and, if_true, if_false, ite_true, ite_false, ↓reduceIte, Bool.not_true, Bool.not_false, Bool.false_eq_true, decide_true, decide_false, Ev.finish, endOf, retOf, leave, enter, tagA, Ev.strip, retag, List.replicate, Nat.reduceAdd, Nat.reduceSub, Nat.reduceLT, Nat.reduceLeDiff, Nat.reduceEqDiff, permL, liftO, liftG, Urn.ty, Urn.st, Urn.lg, Urn.lo, eq_self, Urn.rt, line0, line1, line2, line3, line4, line5, line6, line7, line8, line9, line10, line11, line12, line13, line14, line15, line16, Urn.g_cells, Urn.g_at, Urn.g_deep, Urn.g_mix, Urn.g_turn, Urn.d_at, Urn.d_turn, Urn.p_at, Urn.p_deep, Urn.p_mix, Urn.p_turn, eq_int, ne_int, eq_bool, ne_bool, ten18, ten15, lenF, runFn, obT, fn_compare, cd_compare, e1, e2, eq_pair, c, e3, l]
theorem floor_of (hm : 4 ≤ m) (h : Red 400 p q) : callN Γ m "floor_of" [.v (fr p q)] = .rt (.v (.int (p.fdiv q))) [.v (fr p q)] := by
  obtain ⟨n, rfl⟩ : ∃ n, m = n + 1 + 1 := ⟨m - 2, by omega⟩
  show runFn fn_floor_of (callN Γ (n + 1)) _ = _
  have h0 := h.pos
  have e1 := check_fraction (m := n + 1) (by omega) h
  have e2 : callN Γ (n + 1) "whole_of" [.v (fr p q)] = .rt (.v (.int (p.fdiv q))) [.v (fr p q)] := by
    show runFn fn_whole_of (callN Γ n) _ = _
    simp only [at_bind, at_ok, at_er, at_no, at_var, at_k, at_op, at_un, at_lk, at_opt, at_nil, at_cons, at_b, at_lks0, at_lks1, at_test, at_toTs0, at_toTs1, at_toTv, at_toTf, at_toTl, at_notT, ltl0, ltl1, ltl2, ltl3, ltl4, ltl5, ltl6, ltl7, ltl8, ltl9, ltl10, ltl11, ltl12, ltl13, ltl14, ltl15, ltl16, at_andT, at_orT, at_if, at_andV, at_orV, at_chain, at_set, at_drop, at_ret, at_pass, at_brk, at_cnt, at_ifS, at_seq, at_putv, at_putf, at_tup, at_lst, at_call, at_callK, at_args0, at_args1, at_argb, at_argt, at_callA, at_unp, at_btup, at_blst, at_bnil, at_bcons, at_bname, at_isi, at_notV, at_par, at_stabs0, at_stabs1, at_stabv, at_stabf, at_puts0, at_puts1, at_daug, at_store, at_chk, at_getE, at_setO, at_modE, at_meth, at_for, at_sval, at_rng1, at_sl, at_po0, at_po1, at_lc, at_dct, at_clear0, at_clear1, at_lc0, at_nox, at_yes, at_for0, at_aft_nx, at_aft_ct, at_aft_bk, at_aft_rt, at_wip0, at_wip1, Bool.and_true, look, List.getElem?_cons_zero, List.getElem?_cons_succ, List.getElem?_nil, List.set_cons_zero, List.set_cons_succ, List.set_nil, List.length_cons, List.length_nil, List.length_map, List.cons_append, List.nil_append, List.length_set, addF, subF, negF, ltF, leF, gtF, geF, isF, isnF, isNF, gcdF, absF, intF, iaddF, isiF, isi, Option.map_some, Option.map_none, Option.bind_some, Ob.data, keyT, List.map_cons, List.map_nil, argsS, bIdx, back, likeA, List.nodup_nil, List.nodup_cons, List.not_mem_nil, not_false_eq_true, and_self, and_true, true_and, if_true, if_false, ite_true, ite_false, ↓reduceIte, Bool.not_true, Bool.not_false, Bool.false_eq_true, decide_true, decide_false, Ev.finish, endOf, retOf, leave, enter, tagA, Ev.strip, retag, List.replicate, Nat.reduceAdd, Nat.reduceSub, Nat.reduceLT, Nat.reduceLeDiff, Nat.reduceEqDiff, permL, liftO, liftG, Urn.ty, Urn.st, Urn.lg, Urn.lo, eq_self, Urn.rt, line0, line1, line2, line3, line4, line5, line6, line7, line8, line9, line10, line11, line12, line13, line14, line15, line16, Urn.g_cells, Urn.g_at, Urn.g_deep, Urn.g_mix, Urn.g_turn, Urn.d_at, Urn.d_turn, Urn.p_at, Urn.p_deep, Urn.p_mix, Urn.p_turn, eq_int, ne_int, eq_bool, ne_bool, ten18, ten15, lenF, runFn, obT, fn_whole_of, cd_whole_of, ix0, ix1, fdiv_ok (show q ≠ 0 by omega) h.bq]
  simp only [at_bind, at_ok, at_er, at_no, at_var, at_k, at_op, at_un, at_lk, at_opt, at_nil, at_cons, at_b, at_lks0, at_lks1, at_test, at_toTs0, at_toTs1, at_toTv, at_toTf, at_toTl, at_notT, ltl0, ltl1, ltl2, ltl3, ltl4, ltl5, ltl6, ltl7, ltl8, ltl9, ltl10, ltl11, ltl12, ltl13, ltl14, ltl15, ltl16, at_andT, at_orT, at_if, at_andV, at_orV, at_chain, at_set, at_drop, at_ret, at_pass, at_brk, at_cnt, at_ifS, at_seq, at_putv, at_putf, at_tup, at_lst, at_call, at_callK, at_args0, at_args1, at_argb, at_argt, at_callA, at_unp, at_btup, at_blst, at_bnil, at_bcons, at_bname, at_isi, at_notV, at_par, at_stabs0, at_stabs1, at_stabv, at_stabf, at_puts0, at_puts1, at_daug, at_store, at_chk, at_getE, at_setO, at_modE, at_meth, at_for, at_sval, at_rng1, at_sl, at_po0, at_po1, at_lc, at_dct, at_clear0, at_clear1, at_lc0, at_nox, at_yes, at_for0, at_aft_nx, at_aft_ct, at_aft_bk, at_aft_rt, at_wip0, at_wip1, Bool.and_true, look, List.getElem?_cons_zero, List.getElem?_cons_succ, List.getElem?_nil, List.set_cons_zero, List.set_cons_succ, List.set_nil, List.length_cons, List.length_nil, List.length_map, List.cons_append, List.nil_append, List.length_set, addF, subF, negF, ltF, leF, gtF, geF, isF, isnF, isNF, gcdF, absF, intF, iaddF, isiF, isi, Option.map_some, Option.map_none, Option.bind_some, Ob.data, keyT, List.map_cons, List.map_nil, argsS, bIdx, back, likeA, List.nodup_nil, List.nodup_cons, List.not_mem_nil, not_false_eq_true, and_self, and_true, true_and, if_true, if_false, ite_true, ite_false, ↓reduceIte, Bool.not_true, Bool.not_false, Bool.false_eq_true, decide_true, decide_false, Ev.finish, endOf, retOf, leave, enter, tagA, Ev.strip, retag, List.replicate, Nat.reduceAdd, Nat.reduceSub, Nat.reduceLT, Nat.reduceLeDiff, Nat.reduceEqDiff, permL, liftO, liftG, Urn.ty, Urn.st, Urn.lg, Urn.lo, eq_self, Urn.rt, line0, line1, line2, line3, line4, line5, line6, line7, line8, line9, line10, line11, line12, line13, line14, line15, line16, Urn.g_cells, Urn.g_at, Urn.g_deep, Urn.g_mix, Urn.g_turn, Urn.d_at, Urn.d_turn, Urn.p_at, Urn.p_deep, Urn.p_mix, Urn.p_turn, eq_int, ne_int, eq_bool, ne_bool, ten18, ten15, lenF, runFn, obT, fn_floor_of, cd_floor_of, e1, e2]
/-- no fractions -/
theorem no_frac2 (hm : 2 ≤ m) (h : ¬ (1 ≤ q ∧ Nat.gcd p.natAbs q.natAbs = 1)) : callN Γ m "is_fraction" [.v (fr p q)] = .rt (.v (.bool false)) [.v (fr p q)] := by
  obtain ⟨n, rfl⟩ : ∃ n, m = n + 1 := ⟨m - 1, by omega⟩
  show runFn fn_is_fraction (callN Γ n) _ = _
  have i1 := is_integer (m := n) p (by omega)
  have i2 := is_integer (m := n) q (by omega)
  by_cases l : 1 ≤ q
  · have e : ¬ ((Nat.gcd p.natAbs q.natAbs : Nat) : Int) = 1 := by
      intro z
      exact h ⟨l, by omega⟩
    simp only [at_bind, at_ok, at_er, at_no, at_var, at_k, at_op, at_un, at_lk, at_opt, at_nil, at_cons, at_b, at_lks0, at_lks1, at_test, at_toTs0, at_toTs1, at_toTv, at_toTf, at_toTl, at_notT, ltl0, ltl1, ltl2, ltl3, ltl4, ltl5, ltl6, ltl7, ltl8, ltl9, ltl10, ltl11, ltl12, ltl13, ltl14, ltl15, ltl16, at_andT, at_orT, at_if, at_andV, at_orV, at_chain, at_set, at_drop, at_ret, at_pass, at_brk, at_cnt, at_ifS, at_seq, at_putv, at_putf, at_tup, at_lst, at_call, at_callK, at_args0, at_args1, at_argb, at_argt, at_callA, at_unp, at_btup, at_blst, at_bnil, at_bcons, at_bname, at_isi, at_notV, at_par, at_stabs0, at_stabs1, at_stabv, at_stabf, at_puts0, at_puts1, at_daug, at_store, at_chk, at_getE, at_setO, at_modE, at_meth, at_for, at_sval, at_rng1, at_sl, at_po0, at_po1, at_lc, at_dct, at_clear0, at_clear1, at_lc0, at_nox, at_yes, at_for0, at_aft_nx, at_aft_ct, at_aft_bk, at_aft_rt, at_wip0, at_wip1, Bool.and_true, look, List.getElem?_cons_zero, List.getElem?_cons_succ, List.getElem?_nil, List.set_cons_zero, List.set_cons_succ, List.set_nil, List.length_cons, List.length_nil, List.length_map, List.cons_append, List.nil_append, List.length_set, addF, subF, negF, ltF, leF, gtF, geF, isF, isnF, isNF, gcdF, absF, intF, iaddF, isiF, isi, Option.map_some, Option.map_none, Option.bind_some, Ob.data, keyT, List.map_cons, List.map_nil, argsS, bIdx, back, likeA, List.nodup_nil, List.nodup_cons, List.not_mem_nil, not_false_eq_true, and_self, and_true, true_and, if_true, if_false, ite_true, ite_false, ↓reduceIte, Bool.not_true, Bool.not_false, Bool.false_eq_true, decide_true, decide_false, Ev.finish, endOf, retOf, leave, enter, tagA, Ev.strip, retag, List.replicate, Nat.reduceAdd, Nat.reduceSub, Nat.reduceLT, Nat.reduceLeDiff, Nat.reduceEqDiff, permL, liftO, liftG, Urn.ty, Urn.st, Urn.lg, Urn.lo, eq_self, Urn.rt, line0, line1, line2, line3, line4, line5, line6, line7, line8, line9, line10, line11, line12, line13, line14, line15, line16, Urn.g_cells, Urn.g_at, Urn.g_deep, Urn.g_mix, Urn.g_turn, Urn.d_at, Urn.d_turn, Urn.p_at, Urn.p_deep, Urn.p_mix, Urn.p_turn, eq_int, ne_int, eq_bool, ne_bool, ten18, ten15, lenF, runFn, obT, fn_is_fraction, cd_is_fraction, i1, i2, e, l, Int.natCast_one, eq_self, Int.cast_ofNat_Int, Int.reduceEq, ne_eq]
  · simp only [at_bind, at_ok, at_er, at_no, at_var, at_k, at_op, at_un, at_lk, at_opt, at_nil, at_cons, at_b, at_lks0, at_lks1, at_test, at_toTs0, at_toTs1, at_toTv, at_toTf, at_toTl, at_notT, ltl0, ltl1, ltl2, ltl3, ltl4, ltl5, ltl6, ltl7, ltl8, ltl9, ltl10, ltl11, ltl12, ltl13, ltl14, ltl15, ltl16, at_andT, at_orT, at_if, at_andV, at_orV, at_chain, at_set, at_drop, at_ret, at_pass, at_brk, at_cnt, at_ifS, at_seq, at_putv, at_putf, at_tup, at_lst, at_call, at_callK, at_args0, at_args1, at_argb, at_argt, at_callA, at_unp, at_btup, at_blst, at_bnil, at_bcons, at_bname, at_isi, at_notV, at_par, at_stabs0, at_stabs1, at_stabv, at_stabf, at_puts0, at_puts1, at_daug, at_store, at_chk, at_getE, at_setO, at_modE, at_meth, at_for, at_sval, at_rng1, at_sl, at_po0, at_po1, at_lc, at_dct, at_clear0, at_clear1, at_lc0, at_nox, at_yes, at_for0, at_aft_nx, at_aft_ct, at_aft_bk, at_aft_rt, at_wip0, at_wip1, Bool.and_true, look, List.getElem?_cons_zero, List.getElem?_cons_succ, List.getElem?_nil, List.set_cons_zero, List.set_cons_succ, List.set_nil, List.length_cons, List.length_nil, List.length_map, List.cons_append, List.nil_append, List.length_set, addF, subF, negF, ltF, leF, gtF, geF, isF, isnF, isNF, gcdF, absF, intF, iaddF, isiF, isi, Option.map_some, Option.map_none, Option.bind_some, Ob.data, keyT, List.map_cons, List.map_nil, argsS, bIdx, back, likeA, List.nodup_nil, List.nodup_cons, List.not_mem_nil, not_false_eq_true, and_self, and_true, true_and, if_true, if_false, ite_true, ite_false, ↓reduceIte, Bool.not_true, Bool.not_false, Bool.false_eq_true, decide_true, decide_false, Ev.finish, endOf, retOf, leave, enter, tagA, Ev.strip, retag, List.replicate, Nat.reduceAdd, Nat.reduceSub, Nat.reduceLT, Nat.reduceLeDiff, Nat.reduceEqDiff, permL, liftO, liftG, Urn.ty, Urn.st, Urn.lg, Urn.lo, eq_self, Urn.rt, line0, line1, line2, line3, line4, line5, line6, line7, line8, line9, line10, line11, line12, line13, line14, line15, line16, Urn.g_cells, Urn.g_at, Urn.g_deep, Urn.g_mix, Urn.g_turn, Urn.d_at, Urn.d_turn, Urn.p_at, Urn.p_deep, Urn.p_mix, Urn.p_turn, eq_int, ne_int, eq_bool, ne_bool, ten18, ten15, lenF, runFn, obT, fn_is_fraction, cd_is_fraction, i1, i2, l, Int.natCast_one, eq_self, Int.cast_ofNat_Int, Int.reduceEq, ne_eq]
theorem no_fracl {ts : List T} (hm : 2 ≤ m) : callN Γ m "is_fraction" [.v (.list ts)] = .rt (.v (.bool false)) [.v (.list ts)] := by
  obtain ⟨n, rfl⟩ : ∃ n, m = n + 1 := ⟨m - 1, by omega⟩
  show runFn fn_is_fraction (callN Γ n) _ = _
  simp only [at_bind, at_ok, at_er, at_no, at_var, at_k, at_op, at_un, at_lk, at_opt, at_nil, at_cons, at_b, at_lks0, at_lks1, at_test, at_toTs0, at_toTs1, at_toTv, at_toTf, at_toTl, at_notT, ltl0, ltl1, ltl2, ltl3, ltl4, ltl5, ltl6, ltl7, ltl8, ltl9, ltl10, ltl11, ltl12, ltl13, ltl14, ltl15, ltl16, at_andT, at_orT, at_if, at_andV, at_orV, at_chain, at_set, at_drop, at_ret, at_pass, at_brk, at_cnt, at_ifS, at_seq, at_putv, at_putf, at_tup, at_lst, at_call, at_callK, at_args0, at_args1, at_argb, at_argt, at_callA, at_unp, at_btup, at_blst, at_bnil, at_bcons, at_bname, at_isi, at_notV, at_par, at_stabs0, at_stabs1, at_stabv, at_stabf, at_puts0, at_puts1, at_daug, at_store, at_chk, at_getE, at_setO, at_modE, at_meth, at_for, at_sval, at_rng1, at_sl, at_po0, at_po1, at_lc, at_dct, at_clear0, at_clear1, at_lc0, at_nox, at_yes, at_for0, at_aft_nx, at_aft_ct, at_aft_bk, at_aft_rt, at_wip0, at_wip1, Bool.and_true, look, List.getElem?_cons_zero, List.getElem?_cons_succ, List.getElem?_nil, List.set_cons_zero, List.set_cons_succ, List.set_nil, List.length_cons, List.length_nil, List.length_map, List.cons_append, List.nil_append, List.length_set, addF, subF, negF, ltF, leF, gtF, geF, isF, isnF, isNF, gcdF, absF, intF, iaddF, isiF, isi, Option.map_some, Option.map_none, Option.bind_some, Ob.data, keyT, List.map_cons, List.map_nil, argsS, bIdx, back, likeA, List.nodup_nil, List.nodup_cons, List.not_mem_nil, not_false_eq_true, and_self, and_true, true_and, if_true, if_false, ite_true, ite_false, ↓reduceIte, Bool.not_true, Bool.not_false, Bool.false_eq_true, decide_true, decide_false, Ev.finish, endOf, retOf, leave, enter, tagA, Ev.strip, retag, List.replicate, Nat.reduceAdd, Nat.reduceSub, Nat.reduceLT, Nat.reduceLeDiff, Nat.reduceEqDiff, permL, liftO, liftG, Urn.ty, Urn.st, Urn.lg, Urn.lo, eq_self, Urn.rt, line0, line1, line2, line3, line4, line5, line6, line7, line8, line9, line10, line11, line12, line13, line14, line15, line16, Urn.g_cells, Urn.g_at, Urn.g_deep, Urn.g_mix, Urn.g_turn, Urn.d_at, Urn.d_turn, Urn.p_at, Urn.p_deep, Urn.p_mix, Urn.p_turn, eq_int, ne_int, eq_bool, ne_bool, ten18, ten15, lenF, runFn, obT, fn_is_fraction, cd_is_fraction]
theorem no_frac3 {a b c : T} (hm : 2 ≤ m) : callN Γ m "is_fraction" [.v (.tuple [a, b, c])] = .rt (.v (.bool false)) [.v (.tuple [a, b, c])] := by
  obtain ⟨n, rfl⟩ : ∃ n, m = n + 1 := ⟨m - 1, by omega⟩
  show runFn fn_is_fraction (callN Γ n) _ = _
  simp only [at_bind, at_ok, at_er, at_no, at_var, at_k, at_op, at_un, at_lk, at_opt, at_nil, at_cons, at_b, at_lks0, at_lks1, at_test, at_toTs0, at_toTs1, at_toTv, at_toTf, at_toTl, at_notT, ltl0, ltl1, ltl2, ltl3, ltl4, ltl5, ltl6, ltl7, ltl8, ltl9, ltl10, ltl11, ltl12, ltl13, ltl14, ltl15, ltl16, at_andT, at_orT, at_if, at_andV, at_orV, at_chain, at_set, at_drop, at_ret, at_pass, at_brk, at_cnt, at_ifS, at_seq, at_putv, at_putf, at_tup, at_lst, at_call, at_callK, at_args0, at_args1, at_argb, at_argt, at_callA, at_unp, at_btup, at_blst, at_bnil, at_bcons, at_bname, at_isi, at_notV, at_par, at_stabs0, at_stabs1, at_stabv, at_stabf, at_puts0, at_puts1, at_daug, at_store, at_chk, at_getE, at_setO, at_modE, at_meth, at_for, at_sval, at_rng1, at_sl, at_po0, at_po1, at_lc, at_dct, at_clear0, at_clear1, at_lc0, at_nox, at_yes, at_for0, at_aft_nx, at_aft_ct, at_aft_bk, at_aft_rt, at_wip0, at_wip1, Bool.and_true, look, List.getElem?_cons_zero, List.getElem?_cons_succ, List.getElem?_nil, List.set_cons_zero, List.set_cons_succ, List.set_nil, List.length_cons, List.length_nil, List.length_map, List.cons_append, List.nil_append, List.length_set, addF, subF, negF, ltF, leF, gtF, geF, isF, isnF, isNF, gcdF, absF, intF, iaddF, isiF, isi, Option.map_some, Option.map_none, Option.bind_some, Ob.data, keyT, List.map_cons, List.map_nil, argsS, bIdx, back, likeA, List.nodup_nil, List.nodup_cons, List.not_mem_nil, not_false_eq_true, and_self, and_true, true_and, if_true, if_false, ite_true, ite_false, ↓reduceIte, Bool.not_true, Bool.not_false, Bool.false_eq_true, decide_true, decide_false, Ev.finish, endOf, retOf, leave, enter, tagA, Ev.strip, retag, List.replicate, Nat.reduceAdd, Nat.reduceSub, Nat.reduceLT, Nat.reduceLeDiff, Nat.reduceEqDiff, permL, liftO, liftG, Urn.ty, Urn.st, Urn.lg, Urn.lo, eq_self, Urn.rt, line0, line1, line2, line3, line4, line5, line6, line7, line8, line9, line10, line11, line12, line13, line14, line15, line16, Urn.g_cells, Urn.g_at, Urn.g_deep, Urn.g_mix, Urn.g_turn, Urn.d_at, Urn.d_turn, Urn.p_at, Urn.p_deep, Urn.p_mix, Urn.p_turn, eq_int, ne_int, eq_bool, ne_bool, ten18, ten15, lenF, runFn, obT, fn_is_fraction, cd_is_fraction, Int.cast_ofNat_Int, Int.reduceEq, ne_eq]
theorem no_frac1 {a : T} (hm : 2 ≤ m) : callN Γ m "is_fraction" [.v (.tuple [a])] = .rt (.v (.bool false)) [.v (.tuple [a])] := by
  obtain ⟨n, rfl⟩ : ∃ n, m = n + 1 := ⟨m - 1, by omega⟩
  show runFn fn_is_fraction (callN Γ n) _ = _
  simp only [at_bind, at_ok, at_er, at_no, at_var, at_k, at_op, at_un, at_lk, at_opt, at_nil, at_cons, at_b, at_lks0, at_lks1, at_test, at_toTs0, at_toTs1, at_toTv, at_toTf, at_toTl, at_notT, ltl0, ltl1, ltl2, ltl3, ltl4, ltl5, ltl6, ltl7, ltl8, ltl9, ltl10, ltl11, ltl12, ltl13, ltl14, ltl15, ltl16, at_andT, at_orT, at_if, at_andV, at_orV, at_chain, at_set, at_drop, at_ret, at_pass, at_brk, at_cnt, at_ifS, at_seq, at_putv, at_putf, at_tup, at_lst, at_call, at_callK, at_args0, at_args1, at_argb, at_argt, at_callA, at_unp, at_btup, at_blst, at_bnil, at_bcons, at_bname, at_isi, at_notV, at_par, at_stabs0, at_stabs1, at_stabv, at_stabf, at_puts0, at_puts1, at_daug, at_store, at_chk, at_getE, at_setO, at_modE, at_meth, at_for, at_sval, at_rng1, at_sl, at_po0, at_po1, at_lc, at_dct, at_clear0, at_clear1, at_lc0, at_nox, at_yes, at_for0, at_aft_nx, at_aft_ct, at_aft_bk, at_aft_rt, at_wip0, at_wip1, Bool.and_true, look, List.getElem?_cons_zero, List.getElem?_cons_succ, List.getElem?_nil, List.set_cons_zero, List.set_cons_succ, List.set_nil, List.length_cons, List.length_nil, List.length_map, List.cons_append, List.nil_append, List.length_set, addF, subF, negF, ltF, leF, gtF, geF, isF, isnF, isNF, gcdF, absF, intF, iaddF, isiF, isi, Option.map_some, Option.map_none, Option.bind_some, Ob.data, keyT, List.map_cons, List.map_nil, argsS, bIdx, back, likeA, List.nodup_nil, List.nodup_cons, List.not_mem_nil, not_false_eq_true, and_self, and_true, true_and, if_true, if_false, ite_true, ite_false, ↓reduceIte, Bool.not_true, Bool.not_false, Bool.false_eq_true, decide_true, decide_false, Ev.finish, endOf, retOf, leave, enter, tagA, Ev.strip, retag, List.replicate, Nat.reduceAdd, Nat.reduceSub, Nat.reduceLT, Nat.reduceLeDiff, Nat.reduceEqDiff, permL, liftO, liftG, Urn.ty, Urn.st, Urn.lg, Urn.lo, eq_self, Urn.rt, line0, line1, line2, line3, line4, line5, line6, line7, line8, line9, line10, line11, line12, line13, line14, line15, line16, Urn.g_cells, Urn.g_at, Urn.g_deep, Urn.g_mix, Urn.g_turn, Urn.d_at, Urn.d_turn, Urn.p_at, Urn.p_deep, Urn.p_mix, Urn.p_turn, eq_int, ne_int, eq_bool, ne_bool, ten18, ten15, lenF, runFn, obT, fn_is_fraction, cd_is_fraction, Int.cast_ofNat_Int, Int.reduceEq, ne_eq, Nat.reduceAdd, Int.natCast_one]
theorem no_fract {as bs : List T} (hm : 2 ≤ m) : callN Γ m "is_fraction" [.v (.tuple [.tuple as, .tuple bs])] = .rt (.v (.bool false)) [.v (.tuple [.tuple as, .tuple bs])] := by
  obtain ⟨n, rfl⟩ : ∃ n, m = n + 1 := ⟨m - 1, by omega⟩
  show runFn fn_is_fraction (callN Γ n) _ = _
  have i1 := is_integer_t (m := n) as (by omega)
  simp only [at_bind, at_ok, at_er, at_no, at_var, at_k, at_op, at_un, at_lk, at_opt, at_nil, at_cons, at_b, at_lks0, at_lks1, at_test, at_toTs0, at_toTs1, at_toTv, at_toTf, at_toTl, at_notT, ltl0, ltl1, ltl2, ltl3, ltl4, ltl5, ltl6, ltl7, ltl8, ltl9, ltl10, ltl11, ltl12, ltl13, ltl14, ltl15, ltl16, at_andT, at_orT, at_if, at_andV, at_orV, at_chain, at_set, at_drop, at_ret, at_pass, at_brk, at_cnt, at_ifS, at_seq, at_putv, at_putf, at_tup, at_lst, at_call, at_callK, at_args0, at_args1, at_argb, at_argt, at_callA, at_unp, at_btup, at_blst, at_bnil, at_bcons, at_bname, at_isi, at_notV, at_par, at_stabs0, at_stabs1, at_stabv, at_stabf, at_puts0, at_puts1, at_daug, at_store, at_chk, at_getE, at_setO, at_modE, at_meth, at_for, at_sval, at_rng1, at_sl, at_po0, at_po1, at_lc, at_dct, at_clear0, at_clear1, at_lc0, at_nox, at_yes, at_for0, at_aft_nx, at_aft_ct, at_aft_bk, at_aft_rt, at_wip0, at_wip1, Bool.and_true, look, List.getElem?_cons_zero, List.getElem?_cons_succ, List.getElem?_nil, List.set_cons_zero, List.set_cons_succ, List.set_nil, List.length_cons, List.length_nil, List.length_map, List.cons_append, List.nil_append, List.length_set, addF, subF, negF, ltF, leF, gtF, geF, isF, isnF, isNF, gcdF, absF, intF, iaddF, isiF, isi, Option.map_some, Option.map_none, Option.bind_some, Ob.data, keyT, List.map_cons, List.map_nil, argsS, bIdx, back, likeA, List.nodup_nil, List.nodup_cons, List.not_mem_nil, not_false_eq_true, and_self, and_true, true_and, if_true, if_false, ite_true, ite_false, ↓reduceIte, Bool.not_true, Bool.not_false, Bool.false_eq_true, decide_true, decide_false, Ev.finish, endOf, retOf, leave, enter, tagA, Ev.strip, retag, List.replicate, Nat.reduceAdd, Nat.reduceSub, Nat.reduceLT, Nat.reduceLeDiff, Nat.reduceEqDiff, permL, liftO, liftG, Urn.ty, Urn.st, Urn.lg, Urn.lo, eq_self, Urn.rt, line0, line1, line2, line3, line4, line5, line6, line7, line8, line9, line10, line11, line12, line13, line14, line15, line16, Urn.g_cells, Urn.g_at, Urn.g_deep, Urn.g_mix, Urn.g_turn, Urn.d_at, Urn.d_turn, Urn.p_at, Urn.p_deep, Urn.p_mix, Urn.p_turn, eq_int, ne_int, eq_bool, ne_bool, ten18, ten15, lenF, runFn, obT, fn_is_fraction, cd_is_fraction, i1, Int.cast_ofNat_Int, Int.reduceEq, ne_eq]
end
end K00
end P_M5

section P_M6
set_option Elab.async false
set_option linter.all false
set_option maxRecDepth 100000
namespace K00
open Ev
set_option autoImplicit false
theorem cut1 (a b : T) : cutT [a, b] none (some 1) = [a] := by rfl
theorem r4 : rngTs 0 (Int.toNat 4) = [.int 0, .int 1, .int 2, .int 3] := by rfl
theorem two {m k : Nat} {u : Urn} {o : Ob} (hm : 3 ≤ m) (ho : strip o = u.ob) (h : UOk k u) (hk : k + 9 ≤ 1000000) :
    ∃ (a b c d : Int) (u' : Urn), callN Γ m "_law_two" [.own o] = .rt (.v (.tuple [.int a, .int b, .int c, .int d])) [.own (retag o u'.ob)] ∧ b ≠ 0 ∧ d ≠ 0 ∧ Bd 60 a ∧ Bd 60 b ∧ Bd 60 c ∧ Bd 60 d ∧ UOk (k + 9) u' := by
  obtain ⟨n, rfl⟩ : ∃ n, m = n + 1 := ⟨m - 1, by omega⟩
  obtain ⟨a, u1, e1, a1, k1⟩ := integer (m := n) (o := .tg 0 u.ob) (by omega) rfl h (by omega)
  obtain ⟨b, u2, e2, a2, k2⟩ := integer (m := n) (o := .tg 0 u1.ob) (by omega) rfl k1 (by omega)
  obtain ⟨c, u3, e3, a3, k3⟩ := integer (m := n) (o := .tg 0 u2.ob) (by omega) rfl k2 (by omega)
  obtain ⟨d, u4, e4, a4, k4⟩ := integer (m := n) (o := .tg 0 u3.ob) (by omega) rfl k3 (by omega)
  obtain ⟨w, u5, e5, w0, w1, k5⟩ := pick (m := n) (o := .tg 0 u4.ob) (by omega) rfl k4 (by omega) (show (0 : Int) < 5 by decide) (by decide)
  have r : (-(2 ^ 62) ≤ (4 : Int) ∧ (4 : Int) < 2 ^ 62) = True := eq_true (by decide)
  have bd : ∀ x : Int, x.natAbs ≤ 1000000000000000 → Bd 52 x := fun x hx => by
    have : Bd 52 1000000000000000 := by decide
    exact this.of_le hx
  have k6 : Bd 8 6 := by decide
  have ba := bd a a1
  have bb := bd b a2
  have bc := bd c a3
  have bd' := bd d a4
  have b1 : Bd 52 1 := by decide
  have b3 : Bd 52 (-3) := by decide
  have bb' : Bd 52 (if b = 0 then 1 else b) := by split <;> assumption
  have ma := mul_ok ba k6
  have mb := mul_ok bb k6
  have mb1 := mul_ok b1 k6
  have sm : (52 : Nat) ≤ 60 := by decide
  by_cases w2 : w = 0
  · by_cases hb : b = 0
    · by_cases hd : d = 0
      all_goals
        refine ⟨a, 1, a * 6, 1 * 6, u5, ?_, by decide, by decide, ba.mono sm, b1.mono sm, (ba.mul k6).mono (by decide), (b1.mul k6).mono (by decide), k5⟩
        show runFn fn__law_two (callN Γ n) _ = _
        simp only [at_bind, at_ok, at_er, at_no, at_var, at_k, at_op, at_un, at_lk, at_opt, at_nil, at_cons, at_b, at_lks0, at_lks1, at_test, at_toTs0, at_toTs1, at_toTv, at_toTf, at_toTl, at_notT, ltl0, ltl1, ltl2, ltl3, ltl4, ltl5, ltl6, ltl7, ltl8, ltl9, ltl10, ltl11, ltl12, ltl13, ltl14, ltl15, ltl16, at_andT, at_orT, at_if, at_andV, at_orV, at_chain, at_set, at_drop, at_ret, at_pass, at_brk, at_cnt, at_ifS, at_seq, at_putv, at_putf, at_tup, at_lst, at_call, at_callK, at_args0, at_args1, at_argb, at_argt, at_callA, at_unp, at_btup, at_blst, at_bnil, at_bcons, at_bname, at_isi, at_notV, at_par, at_stabs0, at_stabs1, at_stabv, at_stabf, at_puts0, at_puts1, at_daug, at_store, at_chk, at_getE, at_setO, at_modE, at_meth, at_for, at_sval, at_rng1, at_sl, at_po0, at_po1, at_lc, at_dct, at_clear0, at_clear1, at_lc0, at_nox, at_yes, at_for0, at_aft_nx, at_aft_ct, at_aft_bk, at_aft_rt, at_wip0, at_wip1, Bool.and_true, look, List.getElem?_cons_zero, List.getElem?_cons_succ, List.getElem?_nil, List.set_cons_zero, List.set_cons_succ, List.set_nil, List.length_cons, List.length_nil, List.length_map, List.cons_append, List.nil_append, List.length_set, addF, subF, negF, ltF, leF, gtF, geF, isF, isnF, isNF, gcdF, absF, intF, iaddF, isiF, isi, Option.map_some, Option.map_none, Option.bind_some, Ob.data, keyT, List.map_cons, List.map_nil, argsS, bIdx, back, likeA, List.nodup_nil, List.nodup_cons, List.not_mem_nil, not_false_eq_true, and_self, and_true, true_and, if_true, if_false, ite_true, ite_false, ↓reduceIte, Bool.not_true, Bool.not_false, Bool.false_eq_true, decide_true, decide_false, Ev.finish, endOf, retOf, leave, enter, tagA, Ev.strip, retag, List.replicate, Nat.reduceAdd, Nat.reduceSub, Nat.reduceLT, Nat.reduceLeDiff, Nat.reduceEqDiff, permL, liftO, liftG, Urn.ty, Urn.st, Urn.lg, Urn.lo, eq_self, Urn.rt, line0, line1, line2, line3, line4, line5, line6, line7, line8, line9, line10, line11, line12, line13, line14, line15, line16, Urn.g_cells, Urn.g_at, Urn.g_deep, Urn.g_mix, Urn.g_turn, Urn.d_at, Urn.d_turn, Urn.p_at, Urn.p_deep, Urn.p_mix, Urn.p_turn, eq_int, ne_int, eq_bool, ne_bool, ten18, ten15, lenF, runFn, obT, fn__law_two, cd__law_two, ho, e1, e2, e3, e4, e5, r, r4, at_lc1, hb, hd, w2, ma, mb1, eq_self]
    · by_cases hd : d = 0
      all_goals
        refine ⟨a, b, a * 6, b * 6, u5, ?_, hb, by omega, ba.mono sm, bb.mono sm, (ba.mul k6).mono (by decide), (bb.mul k6).mono (by decide), k5⟩
        show runFn fn__law_two (callN Γ n) _ = _
        simp only [at_bind, at_ok, at_er, at_no, at_var, at_k, at_op, at_un, at_lk, at_opt, at_nil, at_cons, at_b, at_lks0, at_lks1, at_test, at_toTs0, at_toTs1, at_toTv, at_toTf, at_toTl, at_notT, ltl0, ltl1, ltl2, ltl3, ltl4, ltl5, ltl6, ltl7, ltl8, ltl9, ltl10, ltl11, ltl12, ltl13, ltl14, ltl15, ltl16, at_andT, at_orT, at_if, at_andV, at_orV, at_chain, at_set, at_drop, at_ret, at_pass, at_brk, at_cnt, at_ifS, at_seq, at_putv, at_putf, at_tup, at_lst, at_call, at_callK, at_args0, at_args1, at_argb, at_argt, at_callA, at_unp, at_btup, at_blst, at_bnil, at_bcons, at_bname, at_isi, at_notV, at_par, at_stabs0, at_stabs1, at_stabv, at_stabf, at_puts0, at_puts1, at_daug, at_store, at_chk, at_getE, at_setO, at_modE, at_meth, at_for, at_sval, at_rng1, at_sl, at_po0, at_po1, at_lc, at_dct, at_clear0, at_clear1, at_lc0, at_nox, at_yes, at_for0, at_aft_nx, at_aft_ct, at_aft_bk, at_aft_rt, at_wip0, at_wip1, Bool.and_true, look, List.getElem?_cons_zero, List.getElem?_cons_succ, List.getElem?_nil, List.set_cons_zero, List.set_cons_succ, List.set_nil, List.length_cons, List.length_nil, List.length_map, List.cons_append, List.nil_append, List.length_set, addF, subF, negF, ltF, leF, gtF, geF, isF, isnF, isNF, gcdF, absF, intF, iaddF, isiF, isi, Option.map_some, Option.map_none, Option.bind_some, Ob.data, keyT, List.map_cons, List.map_nil, argsS, bIdx, back, likeA, List.nodup_nil, List.nodup_cons, List.not_mem_nil, not_false_eq_true, and_self, and_true, true_and, if_true, if_false, ite_true, ite_false, ↓reduceIte, Bool.not_true, Bool.not_false, Bool.false_eq_true, decide_true, decide_false, Ev.finish, endOf, retOf, leave, enter, tagA, Ev.strip, retag, List.replicate, Nat.reduceAdd, Nat.reduceSub, Nat.reduceLT, Nat.reduceLeDiff, Nat.reduceEqDiff, permL, liftO, liftG, Urn.ty, Urn.st, Urn.lg, Urn.lo, eq_self, Urn.rt, line0, line1, line2, line3, line4, line5, line6, line7, line8, line9, line10, line11, line12, line13, line14, line15, line16, Urn.g_cells, Urn.g_at, Urn.g_deep, Urn.g_mix, Urn.g_turn, Urn.d_at, Urn.d_turn, Urn.p_at, Urn.p_deep, Urn.p_mix, Urn.p_turn, eq_int, ne_int, eq_bool, ne_bool, ten18, ten15, lenF, runFn, obT, fn__law_two, cd__law_two, ho, e1, e2, e3, e4, e5, r, r4, at_lc1, hb, hd, w2, ma, mb, eq_self]
  · by_cases w3 : w = 1
    · by_cases hb : b = 0
      · by_cases hd : d = 0
        all_goals
          refine ⟨a, 1, a + 1, 1, u5, ?_, by decide, by decide, ba.mono sm, b1.mono sm, (ba.add b1).mono (by decide), b1.mono sm, k5⟩
          show runFn fn__law_two (callN Γ n) _ = _
          simp only [at_bind, at_ok, at_er, at_no, at_var, at_k, at_op, at_un, at_lk, at_opt, at_nil, at_cons, at_b, at_lks0, at_lks1, at_test, at_toTs0, at_toTs1, at_toTv, at_toTf, at_toTl, at_notT, ltl0, ltl1, ltl2, ltl3, ltl4, ltl5, ltl6, ltl7, ltl8, ltl9, ltl10, ltl11, ltl12, ltl13, ltl14, ltl15, ltl16, at_andT, at_orT, at_if, at_andV, at_orV, at_chain, at_set, at_drop, at_ret, at_pass, at_brk, at_cnt, at_ifS, at_seq, at_putv, at_putf, at_tup, at_lst, at_call, at_callK, at_args0, at_args1, at_argb, at_argt, at_callA, at_unp, at_btup, at_blst, at_bnil, at_bcons, at_bname, at_isi, at_notV, at_par, at_stabs0, at_stabs1, at_stabv, at_stabf, at_puts0, at_puts1, at_daug, at_store, at_chk, at_getE, at_setO, at_modE, at_meth, at_for, at_sval, at_rng1, at_sl, at_po0, at_po1, at_lc, at_dct, at_clear0, at_clear1, at_lc0, at_nox, at_yes, at_for0, at_aft_nx, at_aft_ct, at_aft_bk, at_aft_rt, at_wip0, at_wip1, Bool.and_true, look, List.getElem?_cons_zero, List.getElem?_cons_succ, List.getElem?_nil, List.set_cons_zero, List.set_cons_succ, List.set_nil, List.length_cons, List.length_nil, List.length_map, List.cons_append, List.nil_append, List.length_set, addF, subF, negF, ltF, leF, gtF, geF, isF, isnF, isNF, gcdF, absF, intF, iaddF, isiF, isi, Option.map_some, Option.map_none, Option.bind_some, Ob.data, keyT, List.map_cons, List.map_nil, argsS, bIdx, back, likeA, List.nodup_nil, List.nodup_cons, List.not_mem_nil, not_false_eq_true, and_self, and_true, true_and, if_true, if_false, ite_true, ite_false, ↓reduceIte, Bool.not_true, Bool.not_false, Bool.false_eq_true, decide_true, decide_false, Ev.finish, endOf, retOf, leave, enter, tagA, Ev.strip, retag, List.replicate, Nat.reduceAdd, Nat.reduceSub, Nat.reduceLT, Nat.reduceLeDiff, Nat.reduceEqDiff, permL, liftO, liftG, Urn.ty, Urn.st, Urn.lg, Urn.lo, eq_self, Urn.rt, line0, line1, line2, line3, line4, line5, line6, line7, line8, line9, line10, line11, line12, line13, line14, line15, line16, Urn.g_cells, Urn.g_at, Urn.g_deep, Urn.g_mix, Urn.g_turn, Urn.d_at, Urn.d_turn, Urn.p_at, Urn.p_deep, Urn.p_mix, Urn.p_turn, eq_int, ne_int, eq_bool, ne_bool, ten18, ten15, lenF, runFn, obT, fn__law_two, cd__law_two, ho, e1, e2, e3, e4, e5, r, r4, at_lc1, hb, hd, w2, w3, eq_self, Int.reduceEq]
      · by_cases hd : d = 0
        all_goals
          refine ⟨a, b, a + 1, b, u5, ?_, hb, hb, ba.mono sm, bb.mono sm, (ba.add b1).mono (by decide), bb.mono sm, k5⟩
          show runFn fn__law_two (callN Γ n) _ = _
          simp only [at_bind, at_ok, at_er, at_no, at_var, at_k, at_op, at_un, at_lk, at_opt, at_nil, at_cons, at_b, at_lks0, at_lks1, at_test, at_toTs0, at_toTs1, at_toTv, at_toTf, at_toTl, at_notT, ltl0, ltl1, ltl2, ltl3, ltl4, ltl5, ltl6, ltl7, ltl8, ltl9, ltl10, ltl11, ltl12, ltl13, ltl14, ltl15, ltl16, at_andT, at_orT, at_if, at_andV, at_orV, at_chain, at_set, at_drop, at_ret, at_pass, at_brk, at_cnt, at_ifS, at_seq, at_putv, at_putf, at_tup, at_lst, at_call, at_callK, at_args0, at_args1, at_argb, at_argt, at_callA, at_unp, at_btup, at_blst, at_bnil, at_bcons, at_bname, at_isi, at_notV, at_par, at_stabs0, at_stabs1, at_stabv, at_stabf, at_puts0, at_puts1, at_daug, at_store, at_chk, at_getE, at_setO, at_modE, at_meth, at_for, at_sval, at_rng1, at_sl, at_po0, at_po1, at_lc, at_dct, at_clear0, at_clear1, at_lc0, at_nox, at_yes, at_for0, at_aft_nx, at_aft_ct, at_aft_bk, at_aft_rt, at_wip0, at_wip1, Bool.and_true, look, List.getElem?_cons_zero, List.getElem?_cons_succ, List.getElem?_nil, List.set_cons_zero, List.set_cons_succ, List.set_nil, List.length_cons, List.length_nil, List.length_map, List.cons_append, List.nil_append, List.length_set, addF, subF, negF, ltF, leF, gtF, geF, isF, isnF, isNF, gcdF, absF, intF, iaddF, isiF, isi, Option.map_some, Option.map_none, Option.bind_some, Ob.data, keyT, List.map_cons, List.map_nil, argsS, bIdx, back, likeA, List.nodup_nil, List.nodup_cons, List.not_mem_nil, not_false_eq_true, and_self, and_true, true_and, if_true, if_false, ite_true, ite_false, ↓reduceIte, Bool.not_true, Bool.not_false, Bool.false_eq_true, decide_true, decide_false, Ev.finish, endOf, retOf, leave, enter, tagA, Ev.strip, retag, List.replicate, Nat.reduceAdd, Nat.reduceSub, Nat.reduceLT, Nat.reduceLeDiff, Nat.reduceEqDiff, permL, liftO, liftG, Urn.ty, Urn.st, Urn.lg, Urn.lo, eq_self, Urn.rt, line0, line1, line2, line3, line4, line5, line6, line7, line8, line9, line10, line11, line12, line13, line14, line15, line16, Urn.g_cells, Urn.g_at, Urn.g_deep, Urn.g_mix, Urn.g_turn, Urn.d_at, Urn.d_turn, Urn.p_at, Urn.p_deep, Urn.p_mix, Urn.p_turn, eq_int, ne_int, eq_bool, ne_bool, ten18, ten15, lenF, runFn, obT, fn__law_two, cd__law_two, ho, e1, e2, e3, e4, e5, r, r4, at_lc1, hb, hd, w2, w3, eq_self, Int.reduceEq]
    · by_cases hb : b = 0
      · by_cases hd : d = 0
        · refine ⟨a, 1, c, -3, u5, ?_, by decide, by decide, ba.mono sm, b1.mono sm, bc.mono sm, b3.mono sm, k5⟩
          show runFn fn__law_two (callN Γ n) _ = _
          simp only [at_bind, at_ok, at_er, at_no, at_var, at_k, at_op, at_un, at_lk, at_opt, at_nil, at_cons, at_b, at_lks0, at_lks1, at_test, at_toTs0, at_toTs1, at_toTv, at_toTf, at_toTl, at_notT, ltl0, ltl1, ltl2, ltl3, ltl4, ltl5, ltl6, ltl7, ltl8, ltl9, ltl10, ltl11, ltl12, ltl13, ltl14, ltl15, ltl16, at_andT, at_orT, at_if, at_andV, at_orV, at_chain, at_set, at_drop, at_ret, at_pass, at_brk, at_cnt, at_ifS, at_seq, at_putv, at_putf, at_tup, at_lst, at_call, at_callK, at_args0, at_args1, at_argb, at_argt, at_callA, at_unp, at_btup, at_blst, at_bnil, at_bcons, at_bname, at_isi, at_notV, at_par, at_stabs0, at_stabs1, at_stabv, at_stabf, at_puts0, at_puts1, at_daug, at_store, at_chk, at_getE, at_setO, at_modE, at_meth, at_for, at_sval, at_rng1, at_sl, at_po0, at_po1, at_lc, at_dct, at_clear0, at_clear1, at_lc0, at_nox, at_yes, at_for0, at_aft_nx, at_aft_ct, at_aft_bk, at_aft_rt, at_wip0, at_wip1, Bool.and_true, look, List.getElem?_cons_zero, List.getElem?_cons_succ, List.getElem?_nil, List.set_cons_zero, List.set_cons_succ, List.set_nil, List.length_cons, List.length_nil, List.length_map, List.cons_append, List.nil_append, List.length_set, addF, subF, negF, ltF, leF, gtF, geF, isF, isnF, isNF, gcdF, absF, intF, iaddF, isiF, isi, Option.map_some, Option.map_none, Option.bind_some, Ob.data, keyT, List.map_cons, List.map_nil, argsS, bIdx, back, likeA, List.nodup_nil, List.nodup_cons, List.not_mem_nil, not_false_eq_true, and_self, and_true, true_and, if_true, if_false, ite_true, ite_false, ↓reduceIte, Bool.not_true, Bool.not_false, Bool.false_eq_true, decide_true, decide_false, Ev.finish, endOf, retOf, leave, enter, tagA, Ev.strip, retag, List.replicate, Nat.reduceAdd, Nat.reduceSub, Nat.reduceLT, Nat.reduceLeDiff, Nat.reduceEqDiff, permL, liftO, liftG, Urn.ty, Urn.st, Urn.lg, Urn.lo, eq_self, Urn.rt, line0, line1, line2, line3, line4, line5, line6, line7, line8, line9, line10, line11, line12, line13, line14, line15, line16, Urn.g_cells, Urn.g_at, Urn.g_deep, Urn.g_mix, Urn.g_turn, Urn.d_at, Urn.d_turn, Urn.p_at, Urn.p_deep, Urn.p_mix, Urn.p_turn, eq_int, ne_int, eq_bool, ne_bool, ten18, ten15, lenF, runFn, obT, fn__law_two, cd__law_two, ho, e1, e2, e3, e4, e5, r, r4, at_lc1, hb, hd, w2, w3, eq_self]
        · refine ⟨a, 1, c, d, u5, ?_, by decide, hd, ba.mono sm, b1.mono sm, bc.mono sm, bd'.mono sm, k5⟩
          show runFn fn__law_two (callN Γ n) _ = _
          simp only [at_bind, at_ok, at_er, at_no, at_var, at_k, at_op, at_un, at_lk, at_opt, at_nil, at_cons, at_b, at_lks0, at_lks1, at_test, at_toTs0, at_toTs1, at_toTv, at_toTf, at_toTl, at_notT, ltl0, ltl1, ltl2, ltl3, ltl4, ltl5, ltl6, ltl7, ltl8, ltl9, ltl10, ltl11, ltl12, ltl13, ltl14, ltl15, ltl16, at_andT, at_orT, at_if, at_andV, at_orV, at_chain, at_set, at_drop, at_ret, at_pass, at_brk, at_cnt, at_ifS, at_seq, at_putv, at_putf, at_tup, at_lst, at_call, at_callK, at_args0, at_args1, at_argb, at_argt, at_callA, at_unp, at_btup, at_blst, at_bnil, at_bcons, at_bname, at_isi, at_notV, at_par, at_stabs0, at_stabs1, at_stabv, at_stabf, at_puts0, at_puts1, at_daug, at_store, at_chk, at_getE, at_setO, at_modE, at_meth, at_for, at_sval, at_rng1, at_sl, at_po0, at_po1, at_lc, at_dct, at_clear0, at_clear1, at_lc0, at_nox, at_yes, at_for0, at_aft_nx, at_aft_ct, at_aft_bk, at_aft_rt, at_wip0, at_wip1, Bool.and_true, look, List.getElem?_cons_zero, List.getElem?_cons_succ, List.getElem?_nil, List.set_cons_zero, List.set_cons_succ, List.set_nil, List.length_cons, List.length_nil, List.length_map, List.cons_append, List.nil_append, List.length_set, addF, subF, negF, ltF, leF, gtF, geF, isF, isnF, isNF, gcdF, absF, intF, iaddF, isiF, isi, Option.map_some, Option.map_none, Option.bind_some, Ob.data, keyT, List.map_cons, List.map_nil, argsS, bIdx, back, likeA, List.nodup_nil, List.nodup_cons, List.not_mem_nil, not_false_eq_true, and_self, and_true, true_and, if_true, if_false, ite_true, ite_false, ↓reduceIte, Bool.not_true, Bool.not_false, Bool.false_eq_true, decide_true, decide_false, Ev.finish, endOf, retOf, leave, enter, tagA, Ev.strip, retag, List.replicate, Nat.reduceAdd, Nat.reduceSub, Nat.reduceLT, Nat.reduceLeDiff, Nat.reduceEqDiff, permL, liftO, liftG, Urn.ty, Urn.st, Urn.lg, Urn.lo, eq_self, Urn.rt, line0, line1, line2, line3, line4, line5, line6, line7, line8, line9, line10, line11, line12, line13, line14, line15, line16, Urn.g_cells, Urn.g_at, Urn.g_deep, Urn.g_mix, Urn.g_turn, Urn.d_at, Urn.d_turn, Urn.p_at, Urn.p_deep, Urn.p_mix, Urn.p_turn, eq_int, ne_int, eq_bool, ne_bool, ten18, ten15, lenF, runFn, obT, fn__law_two, cd__law_two, ho, e1, e2, e3, e4, e5, r, r4, at_lc1, hb, hd, w2, w3, eq_self]
      · by_cases hd : d = 0
        · refine ⟨a, b, c, -3, u5, ?_, hb, by decide, ba.mono sm, bb.mono sm, bc.mono sm, b3.mono sm, k5⟩
          show runFn fn__law_two (callN Γ n) _ = _
          simp only [at_bind, at_ok, at_er, at_no, at_var, at_k, at_op, at_un, at_lk, at_opt, at_nil, at_cons, at_b, at_lks0, at_lks1, at_test, at_toTs0, at_toTs1, at_toTv, at_toTf, at_toTl, at_notT, ltl0, ltl1, ltl2, ltl3, ltl4, ltl5, ltl6, ltl7, ltl8, ltl9, ltl10, ltl11, ltl12, ltl13, ltl14, ltl15, ltl16, at_andT, at_orT, at_if, at_andV, at_orV, at_chain, at_set, at_drop, at_ret, at_pass, at_brk, at_cnt, at_ifS, at_seq, at_putv, at_putf, at_tup, at_lst, at_call, at_callK, at_args0, at_args1, at_argb, at_argt, at_callA, at_unp, at_btup, at_blst, at_bnil, at_bcons, at_bname, at_isi, at_notV, at_par, at_stabs0, at_stabs1, at_stabv, at_stabf, at_puts0, at_puts1, at_daug, at_store, at_chk, at_getE, at_setO, at_modE, at_meth, at_for, at_sval, at_rng1, at_sl, at_po0, at_po1, at_lc, at_dct, at_clear0, at_clear1, at_lc0, at_nox, at_yes, at_for0, at_aft_nx, at_aft_ct, at_aft_bk, at_aft_rt, at_wip0, at_wip1, Bool.and_true, look, List.getElem?_cons_zero, List.getElem?_cons_succ, List.getElem?_nil, List.set_cons_zero, List.set_cons_succ, List.set_nil, List.length_cons, List.length_nil, List.length_map, List.cons_append, List.nil_append, List.length_set, addF, subF, negF, ltF, leF, gtF, geF, isF, isnF, isNF, gcdF, absF, intF, iaddF, isiF, isi, Option.map_some, Option.map_none, Option.bind_some, Ob.data, keyT, List.map_cons, List.map_nil, argsS, bIdx, back, likeA, List.nodup_nil, List.nodup_cons, List.not_mem_nil, not_false_eq_true, and_self, and_true, true_and, if_true, if_false, ite_true, ite_false, ↓reduceIte, Bool.not_true, Bool.not_false, Bool.false_eq_true, decide_true, decide_false, Ev.finish, endOf, retOf, leave, enter, tagA, Ev.strip, retag, List.replicate, Nat.reduceAdd, Nat.reduceSub, Nat.reduceLT, Nat.reduceLeDiff, Nat.reduceEqDiff, permL, liftO, liftG, Urn.ty, Urn.st, Urn.lg, Urn.lo, eq_self, Urn.rt, line0, line1, line2, line3, line4, line5, line6, line7, line8, line9, line10, line11, line12, line13, line14, line15, line16, Urn.g_cells, Urn.g_at, Urn.g_deep, Urn.g_mix, Urn.g_turn, Urn.d_at, Urn.d_turn, Urn.p_at, Urn.p_deep, Urn.p_mix, Urn.p_turn, eq_int, ne_int, eq_bool, ne_bool, ten18, ten15, lenF, runFn, obT, fn__law_two, cd__law_two, ho, e1, e2, e3, e4, e5, r, r4, at_lc1, hb, hd, w2, w3, eq_self]
        · refine ⟨a, b, c, d, u5, ?_, hb, hd, ba.mono sm, bb.mono sm, bc.mono sm, bd'.mono sm, k5⟩
          show runFn fn__law_two (callN Γ n) _ = _
          simp only [at_bind, at_ok, at_er, at_no, at_var, at_k, at_op, at_un, at_lk, at_opt, at_nil, at_cons, at_b, at_lks0, at_lks1, at_test, at_toTs0, at_toTs1, at_toTv, at_toTf, at_toTl, at_notT, ltl0, ltl1, ltl2, ltl3, ltl4, ltl5, ltl6, ltl7, ltl8, ltl9, ltl10, ltl11, ltl12, ltl13, ltl14, ltl15, ltl16, at_andT, at_orT, at_if, at_andV, at_orV, at_chain, at_set, at_drop, at_ret, at_pass, at_brk, at_cnt, at_ifS, at_seq, at_putv, at_putf, at_tup, at_lst, at_call, at_callK, at_args0, at_args1, at_argb, at_argt, at_callA, at_unp, at_btup, at_blst, at_bnil, at_bcons, at_bname, at_isi, at_notV, at_par, at_stabs0, at_stabs1, at_stabv, at_stabf, at_puts0, at_puts1, at_daug, at_store, at_chk, at_getE, at_setO, at_modE, at_meth, at_for, at_sval, at_rng1, at_sl, at_po0, at_po1, at_lc, at_dct, at_clear0, at_clear1, at_lc0, at_nox, at_yes, at_for0, at_aft_nx, at_aft_ct, at_aft_bk, at_aft_rt, at_wip0, at_wip1, Bool.and_true, look, List.getElem?_cons_zero, List.getElem?_cons_succ, List.getElem?_nil, List.set_cons_zero, List.set_cons_succ, List.set_nil, List.length_cons, List.length_nil, List.length_map, List.cons_append, List.nil_append, List.length_set, addF, subF, negF, ltF, leF, gtF, geF, isF, isnF, isNF, gcdF, absF, intF, iaddF, isiF, isi, Option.map_some, Option.map_none, Option.bind_some, Ob.data, keyT, List.map_cons, List.map_nil, argsS, bIdx, back, likeA, List.nodup_nil, List.nodup_cons, List.not_mem_nil, not_false_eq_true, and_self, and_true, true_and, if_true, if_false, ite_true, ite_false, ↓reduceIte, Bool.not_true, Bool.not_false, Bool.false_eq_true, decide_true, decide_false, Ev.finish, endOf, retOf, leave, enter, tagA, Ev.strip, retag, List.replicate, Nat.reduceAdd, Nat.reduceSub, Nat.reduceLT, Nat.reduceLeDiff, Nat.reduceEqDiff, permL, liftO, liftG, Urn.ty, Urn.st, Urn.lg, Urn.lo, eq_self, Urn.rt, line0, line1, line2, line3, line4, line5, line6, line7, line8, line9, line10, line11, line12, line13, line14, line15, line16, Urn.g_cells, Urn.g_at, Urn.g_deep, Urn.g_mix, Urn.g_turn, Urn.d_at, Urn.d_turn, Urn.p_at, Urn.p_deep, Urn.p_mix, Urn.p_turn, eq_int, ne_int, eq_bool, ne_bool, ten18, ten15, lenF, runFn, obT, fn__law_two, cd__law_two, ho, e1, e2, e3, e4, e5, r, r4, at_lc1, hb, hd, w2, w3, eq_self]
end K00
end P_M6

section P_M7
set_option Elab.async false
set_option linter.all false
set_option maxRecDepth 100000
set_option maxHeartbeats 1000000
namespace K00
open Ev
set_option autoImplicit false
def lawB (cf : CF) : MS := (mSeq (mUnp (mCall cf "_law_two" [true] (mCons (mVar 1) mNil)) (bTup 4 (bCons (bName 3) (bCons (bName 4) (bCons (bName 5) (bCons (bName 6) bNil))))))
    (mSeq (mPar [7, 8] (mCons (mCall cf "_law_lowest" [false, false] (mCons (mVar 3) (mCons (mVar 4) mNil))) (mCons (mCall cf "_law_lowest" [false, false] (mCons (mVar 5) (mCons (mVar 6) mNil))) mNil)))
    (mSeq (mIfS (mNotT (mTest (mCall cf "_law_same" [false, false] (mCons (mLst (mCons (mCall cf "fraction_of" [false, false] (mCons (mVar 3) (mCons (mVar 4) mNil))) (mCons (mCallK cf "fraction_of" [false, false] [1, 0] (mCons (mVar 6) (mCons (mVar 5) mNil))) mNil))) (mCons (mLst (mCons (mVar 7) (mCons (mVar 8) mNil))) mNil))))) (mRet (mK (.bool false))) mPass)
    (mSeq (mPar [9, 10] (mCons (mCall cf "_law_lowest" [false, false] (mCons (mOp addF (mOp mulF (mOp ixF (mVar 7) (mK (.int 0))) (mOp ixF (mVar 8) (mK (.int 1)))) (mOp mulF (mOp ixF (mVar 8) (mK (.int 0))) (mOp ixF (mVar 7) (mK (.int 1))))) (mCons (mOp mulF (mOp ixF (mVar 7) (mK (.int 1))) (mOp ixF (mVar 8) (mK (.int 1)))) mNil))) (mCons (mCall cf "_law_lowest" [false, false] (mCons (mOp mulF (mOp ixF (mVar 7) (mK (.int 0))) (mOp ixF (mVar 8) (mK (.int 0)))) (mCons (mOp mulF (mOp ixF (mVar 7) (mK (.int 1))) (mOp ixF (mVar 8) (mK (.int 1)))) mNil))) mNil)))
    (mSeq (mIfS (mNotT (mTest (mCall cf "_law_same" [false, false] (mCons (mLst (mCons (mCall cf "add" [false, false] (mCons (mVar 7) (mCons (mVar 8) mNil))) (mCons (mCallK cf "add" [false, false] [1, 0] (mCons (mVar 7) (mCons (mVar 8) mNil))) mNil))) (mCons (mLst (mCons (mVar 9) (mCons (mVar 9) mNil))) mNil))))) (mRet (mK (.bool false))) mPass)
    (mSeq (mIfS (mNotT (mTest (mCall cf "_law_same" [false, false] (mCons (mLst (mCons (mCall cf "multiply" [false, false] (mCons (mVar 7) (mCons (mVar 8) mNil))) (mCons (mCallK cf "multiply" [false, false] [1, 0] (mCons (mVar 7) (mCons (mVar 8) mNil))) mNil))) (mCons (mLst (mCons (mVar 10) (mCons (mVar 10) mNil))) mNil))))) (mRet (mK (.bool false))) mPass)
    (mSeq (mSet 11 (mOp subF (mOp mulF (mOp ixF (mVar 7) (mK (.int 0))) (mOp ixF (mVar 8) (mK (.int 1)))) (mOp mulF (mOp ixF (mVar 8) (mK (.int 0))) (mOp ixF (mVar 7) (mK (.int 1))))))
    (mSeq (mSet 12 (mIf (mTest (mOp ltF (mVar 11) (mK (.int 0)))) (mUn negF (mK (.int 1))) (mIf (mTest (mOp gtF (mVar 11) (mK (.int 0)))) (mK (.int 1)) (mK (.int 0)))))
    (mSeq (mIfS (mNotT (mTest (mCall cf "_law_same" [false, false] (mCons (mLst (mCons (mCall cf "compare" [false, false] (mCons (mVar 7) (mCons (mVar 8) mNil))) (mCons (mCallK cf "compare" [false, false] [1, 0] (mCons (mVar 7) (mCons (mVar 8) mNil))) (mCons (mCall cf "compare" [false, false] (mCons (mVar 7) (mCons (mVar 7) mNil))) mNil)))) (mCons (mLst (mCons (mVar 12) (mCons (mUn negF (mVar 12)) (mCons (mK (.int 0)) mNil)))) mNil))))) (mRet (mK (.bool false))) mPass)
    (mSeq (mSet 13 (mCall cf "floor_of" [false] (mCons (mVar 7) mNil)))
    (mSeq (mIfS (mOrT (mNotT (mTest (mIsi .int (mVar 13)))) (mOrT (mTest (mIsi .bool (mVar 13))) (mNotT (mTest (mChain leF ltF (mK (.int 0)) (mOp subF (mOp ixF (mVar 7) (mK (.int 0))) (mOp mulF (mVar 13) (mOp ixF (mVar 7) (mK (.int 1))))) (mOp ixF (mVar 7) (mK (.int 1)))))))) (mRet (mK (.bool false))) mPass)
    (mSeq (mIfS (mNotT (mTest (mCall cf "_law_same" [false, false] (mCons (mLst (mCons (mCallK cf "floor_of" [false] [0] (mCons (mVar 8) mNil)) (mCons (mCall cf "is_fraction" [false] (mCons (mVar 7) mNil)) (mCons (mCallK cf "is_fraction" [false] [0] (mCons (mVar 8) mNil)) mNil)))) (mCons (mLst (mCons (mOp fdivF (mOp ixF (mVar 8) (mK (.int 0))) (mOp ixF (mVar 8) (mK (.int 1)))) (mCons (mK (.bool true)) (mCons (mK (.bool true)) mNil)))) mNil))))) (mRet (mK (.bool false))) mPass)
    (mSeq (mSet 14 (mOp addF (mK (.int 2)) (mCall cf "_law_pick" [true, false] (mCons (mVar 1) (mCons (mK (.int 40)) mNil)))))
    (mSeq (mSet 15 (mLst (mCons (mTup (mCons (mOp mulF (mOp ixF (mVar 7) (mK (.int 0))) (mVar 14)) (mCons (mOp mulF (mOp ixF (mVar 7) (mK (.int 1))) (mVar 14)) mNil))) (mCons (mTup (mCons (mUn negF (mOp ixF (mVar 7) (mK (.int 0)))) (mCons (mUn negF (mOp ixF (mVar 7) (mK (.int 1)))) mNil))) (mCons (mTup (mCons (mOp ixF (mVar 7) (mK (.int 0))) (mCons (mK (.int 0)) mNil))) (mCons (mLst (mCons (mOp ixF (mVar 7) (mK (.int 0))) (mCons (mOp ixF (mVar 7) (mK (.int 1))) mNil))) (mCons (mOp addF (mVar 7) (mTup (mCons (mK (.int 1)) mNil))) (mCons (mSl (mVar 7) (mPo none) (mPo (some (mK (.int 1))))) (mCons (mTup (mCons (mVar 7) (mCons (mVar 8) mNil))) mNil)))))))))
    (mIfS (mNotT (mTest (mCall cf "_law_same" [false, false] (mCons (mLc (sVal (mVar 15)) (bName 16) cYes (mCall cf "is_fraction" [false] (mCons (mVar 16) mNil)) [16]) (mCons (mLc (sVal (mVar 15)) (bName 16) cYes (mK (.bool false)) [16]) mNil))))) (mRet (mK (.bool false))) mPass)))))))))))))))
theorem r12 : (-(2 ^ 62) ≤ (12 : Int) ∧ (12 : Int) < 2 ^ 62) = True := eq_true (by decide)
theorem pl_fr (d : Nat) (p q : Int) : Pl (d + 2) (fr p q) := ⟨by rw [show [T.int p, T.int q].length = 2 from rfl, line2]; trivial, fun t h => by
  simp only [List.mem_cons, List.not_mem_nil, or_false] at h
  rcases h with rfl | rfl <;> trivial⟩
theorem turnB {m k : Nat} {u : Urn} (hm : 6 ≤ m) (h : UOk k u) (hk : k + 10 ≤ 1000000) (sc t : T) (s2 s3 s4 s5 s6 s7 s8 s9 s10 s11 s12 s13 s14 s15 : Sl) :
    ∃ (u' : Urn) (z3 z4 z5 z6 z7 z8 z9 z10 z11 z12 z13 z14 z15 : Sl), lawB (callN Γ m) [.v sc, .own u.ob, .v t, s3, s4, s5, s6, s7, s8, s9, s10, s11, s12, s13, s14, s15, .non] = .ok .nx [.v sc, .own u'.ob, .v t, z3, z4, z5, z6, z7, z8, z9, z10, z11, z12, z13, z14, z15, .non] ∧ UOk (k + 10) u' := by
  obtain ⟨a, b, c, d, u1, e1, b0, d0, ba, bb, bc, bd, k1⟩ := two (m := m) (o := u.ob) (by omega) rfl h (by omega)
  have e2 := lowest (m := m) (by omega) b0 (ba.mono (by decide)) (bb.mono (by decide))
  have e3 := lowest (m := m) (by omega) d0 (bc.mono (by decide)) (bd.mono (by decide))
  have e4 := fraction_of (m := m) (a := a) (by omega) b0 (bb.mono (by decide))
  have e5 := fraction_of (m := m) (a := c) (by omega) d0 (bd.mono (by decide))
  have R := low_red b0 ba bb
  have S := low_red d0 bc bd
  generalize lowP a b = p at *
  generalize lowQ a b = q at *
  generalize lowP c d = r at *
  generalize lowQ c d = s at *
  have R' := R.mono (show 60 ≤ 400 by decide)
  have S' := S.mono (show 60 ≤ 400 by decide)
  have q0 := R.pos
  have s0 := S.pos
  have same := fun (ts : List T) (x : List T) (h : Pl 3 (.list ts)) => same_refl 3 m (.list ts) h (by omega)
  have pl2 : ∀ p q r s : Int, Pl 3 (.list [fr p q, fr r s]) := fun p q r s => ⟨by rw [show [fr p q, fr r s].length = 2 from rfl, line2]; trivial, fun t h => by
    simp only [List.mem_cons, List.not_mem_nil, or_false] at h
    rcases h with rfl | rfl <;> exact pl_fr 0 _ _⟩
  have pl3 : ∀ x y z : T, Pl 1 x → Pl 1 y → Pl 1 z → Pl 2 (.list [x, y, z]) := fun x y z hx hy hz => ⟨by rw [show [x, y, z].length = 3 from rfl, line3]; trivial, fun t h => by
    simp only [List.mem_cons, List.not_mem_nil, or_false] at h
    rcases h with rfl | rfl | rfl <;> assumption⟩
  have f1 := same_refl 3 m _ (pl2 p q r s) (by omega)
  have m1 := mul_ok R.bp S.bq
  have m2 := mul_ok S.bp R.bq
  have m3 := mul_ok R.bq S.bq
  have m4 := mul_ok R.bp S.bp
  have hqs : q * s ≠ 0 := Int.mul_ne_zero (by omega) (by omega)
  have e6 := lowest (m := m) (a := p * s + r * q) (b := q * s) (by omega) hqs (((R.bp.mul S.bq).add (S.bp.mul R.bq)).mono (by decide)) ((R.bq.mul S.bq).mono (by decide))
  have e7 := lowest (m := m) (a := p * r) (b := q * s) (by omega) hqs ((R.bp.mul S.bp).mono (by decide)) ((R.bq.mul S.bq).mono (by decide))
  have e8 := add (m := m) (by omega) R' S'
  have e9 := add (m := m) (by omega) S' R'
  have e10 := multiply (m := m) (by omega) R' S'
  have e11 := multiply (m := m) (by omega) S' R'
  rw [Int.add_comm (r * q), Int.mul_comm s q] at e9
  rw [Int.mul_comm r p, Int.mul_comm s q] at e11
  have f2 := same_refl 3 m _ (pl2 (lowP (p * s + r * q) (q * s)) (lowQ (p * s + r * q) (q * s)) (lowP (p * s + r * q) (q * s)) (lowQ (p * s + r * q) (q * s))) (by omega)
  have f3 := same_refl 3 m _ (pl2 (lowP (p * r) (q * s)) (lowQ (p * r) (q * s)) (lowP (p * r) (q * s)) (lowQ (p * r) (q * s))) (by omega)
  have e12 := compare (m := m) (by omega) R' S'
  have e13 := compare (m := m) (by omega) S' R'
  have e14 := compare (m := m) (by omega) R' R'
  have e15 := floor_of (m := m) (by omega) R'
  have e16 := floor_of (m := m) (by omega) S'
  have e17 := is_fraction (m := m) (by omega) R'
  have e18 := is_fraction (m := m) (by omega) S'
  have f4 := fun g : Int => same_refl 2 m _ (pl3 (.int g) (.int (-g)) (.int 0) trivial trivial trivial) (by omega)
  have f5 := same_refl 2 m _ (pl3 (.int (r.fdiv s)) (.bool true) (.bool true) trivial trivial trivial) (by omega)
  obtain ⟨w, u2, e19, w0, w1, k2⟩ := pick (m := m) (o := u1.ob) (by omega) rfl k1 (by omega) (show (0 : Int) < 40 by decide) (by decide)
  have bw : Bd 7 (2 + w) := by
    have : Bd 7 64 := by decide
    exact this.of_le (by omega)
  have m5 := mul_ok R.bp bw
  have m6 := mul_ok R.bq bw
  have n1 := no_frac2 (m := m) (p := p * (2 + w)) (q := q * (2 + w)) (by omega) (by
    rintro ⟨_, z⟩
    rw [Int.natAbs_mul, Int.natAbs_mul, Nat.gcd_mul_right, R.gcd] at z
    omega)
  have n2 := no_frac2 (m := m) (p := -p) (q := -q) (by omega) (by rintro ⟨z, _⟩; omega)
  have n3 := no_frac2 (m := m) (p := p) (q := 0) (by omega) (by rintro ⟨z, _⟩; omega)
  have n4 := no_fracl (m := m) (ts := [.int p, .int q]) (by omega)
  have n5 := no_frac3 (m := m) (a := .int p) (b := .int q) (c := .int 1) (by omega)
  have n6 := no_frac1 (m := m) (a := .int p) (by omega)
  have n7 := no_fract (m := m) (as := [.int p, .int q]) (bs := [.int r, .int s]) (by omega)
  have f6 : callN Γ m "_law_same" [.v (.list [.bool false, .bool false, .bool false, .bool false, .bool false, .bool false, .bool false]), .v (.list [.bool false, .bool false, .bool false, .bool false, .bool false, .bool false, .bool false])] = .rt (.v (.bool true)) _ := same_refl 2 m _ ⟨by rw [show [T.bool false, .bool false, .bool false, .bool false, .bool false, .bool false, .bool false].length = 7 from rfl, line7]; trivial, fun t h => by
    simp only [List.mem_cons, List.not_mem_nil, or_false] at h
    rcases h with rfl | rfl | rfl | rfl | rfl | rfl | rfl <;> trivial⟩ (by omega)
  have d1 := fdiv_ok (i := r) (show s ≠ 0 by omega) S'.bq
  have bf : Bd 60 (p.fdiv q) := R.bp.of_le (by
    rw [Int.fdiv_eq_ediv_of_nonneg _ (by omega)]
    exact Int.natAbs_ediv_le_natAbs _ _)
  have m7 := mul_ok bf R.bq
  have fe := Int.mul_fdiv_add_fmod p q
  have g1 : 0 ≤ p - p.fdiv q * q := by
    have := Int.fmod_nonneg_of_pos p (show 0 < q by omega)
    rw [Int.mul_comm]; omega
  have g2 : p - p.fdiv q * q < q := by
    have := Int.fmod_lt_of_pos p (show 0 < q by omega)
    rw [Int.mul_comm]; omega
  have o3 : ord (p * q - p * q) = 0 := by
    rw [Int.sub_self]; rfl
  rw [o3] at e14
  generalize hg : p * s - r * q = gap at *
  have hg2 : r * q - p * s = -gap := by omega
  rw [hg2] at e13
  refine ⟨u2, .v (.int a), .v (.int b), .v (.int c), .v (.int d), .v (fr p q), .v (fr r s), .v (fr (lowP (p * s + r * q) (q * s)) (lowQ (p * s + r * q) (q * s))), .v (fr (lowP (p * r) (q * s)) (lowQ (p * r) (q * s))), .v (.int gap), .v (.int (ord gap)), .v (.int (p.fdiv q)), .v (.int (2 + w)),
    .v (.list [fr (p * (2 + w)) (q * (2 + w)), fr (-p) (-q), fr p 0, .list [.int p, .int q], .tuple [.int p, .int q, .int 1], .tuple [.int p], .tuple [fr p q, fr r s]]), ?_, k2⟩
  rcases Int.lt_trichotomy gap 0 with hgap | hgap | hgap
  · have o1 : ord gap = -1 := if_pos hgap
    have o2 : ord (-gap) = 1 := by unfold ord; rw [if_neg (by omega), if_pos (by omega)]
    rw [o1] at e12 ⊢
    rw [o2] at e13
    have f4' := same_refl 2 m _ (pl3 (.int (-1)) (.int (1)) (.int 0) trivial trivial trivial) (by omega)
    have k1 : gap < 0 := hgap
    have k2 : ¬ 0 < gap := by omega
    simp only [at_bind, at_ok, at_er, at_no, at_var, at_k, at_op, at_un, at_lk, at_opt, at_nil, at_cons, at_b, at_lks0, at_lks1, at_test, at_toTs0, at_toTs1, at_toTv, at_toTf, at_toTl, at_notT, ltl0, ltl1, ltl2, ltl3, ltl4, ltl5, ltl6, ltl7, ltl8, ltl9, ltl10, ltl11, ltl12, ltl13, ltl14, ltl15, ltl16, at_andT, at_orT, at_if, at_andV, at_orV, at_chain, at_set, at_drop, at_ret, at_pass, at_brk, at_cnt, at_ifS, at_seq, at_putv, at_putf, at_tup, at_lst, at_call, at_callK, at_args0, at_args1, at_argb, at_argt, at_callA, at_unp, at_btup, at_blst, at_bnil, at_bcons, at_bname, at_isi, at_notV, at_par, at_stabs0, at_stabs1, at_stabv, at_stabf, at_puts0, at_puts1, at_daug, at_store, at_chk, at_getE, at_setO, at_modE, at_meth, at_for, at_sval, at_rng1, at_sl, at_po0, at_po1, at_lc, at_dct, at_clear0, at_clear1, at_lc0, at_nox, at_yes, at_for0, at_aft_nx, at_aft_ct, at_aft_bk, at_aft_rt, at_wip0, at_wip1, Bool.and_true, look, List.getElem?_cons_zero, List.getElem?_cons_succ, List.getElem?_nil, List.set_cons_zero, List.set_cons_succ, List.set_nil, List.length_cons, List.length_nil, List.length_map, List.cons_append, List.nil_append, List.length_set, addF, subF, negF, ltF, leF, gtF, geF, isF, isnF, isNF, gcdF, absF, intF, iaddF, isiF, isi, Option.map_some, Option.map_none, Option.bind_some, Ob.data, keyT, List.map_cons, List.map_nil, argsS, bIdx, back, likeA, List.nodup_nil, List.nodup_cons, List.not_mem_nil, not_false_eq_true, and_self, and_true, true_and, if_true, if_false, ite_true, ite_false, ↓reduceIte, Bool.not_true, Bool.not_false, Bool.false_eq_true, decide_true, decide_false, Ev.finish, endOf, retOf, leave, enter, tagA, Ev.strip, retag, List.replicate, Nat.reduceAdd, Nat.reduceSub, Nat.reduceLT, Nat.reduceLeDiff, Nat.reduceEqDiff, permL, liftO, liftG, Urn.ty, Urn.st, Urn.lg, Urn.lo, eq_self, Urn.rt, line0, line1, line2, line3, line4, line5, line6, line7, line8, line9, line10, line11, line12, line13, line14, line15, line16, Urn.g_cells, Urn.g_at, Urn.g_deep, Urn.g_mix, Urn.g_turn, Urn.d_at, Urn.d_turn, Urn.p_at, Urn.p_deep, Urn.p_mix, Urn.p_turn, eq_int, ne_int, eq_bool, ne_bool, ten18, ten15, lenF, runFn, obT, lawB, e1, e2, e3, e4, e5, f1, m1, m2, m3, m4, ix0, ix1, e6, e7, e8, e9, e10, e11, f2, f3, hg, k1, k2, e12, e13, e14, Int.reduceNeg, Int.neg_neg, Int.neg_zero, f4', e15, m7, g1, g2, e16, e17, e18, d1, f5, e19, m5, m6, slF, cut1, itemsOf, at_lc1, n1, n2, n3, n4, n5, n6, n7, f6]
  · have o1 : ord gap = 0 := by rw [hgap]; rfl
    have o2 : ord (-gap) = 0 := by rw [hgap]; rfl
    rw [o1] at e12 ⊢
    rw [o2] at e13
    have f4' := same_refl 2 m _ (pl3 (.int (0)) (.int (0)) (.int 0) trivial trivial trivial) (by omega)
    have k1 : ¬ gap < 0 := by omega
    have k2 : ¬ 0 < gap := by omega
    simp only [at_bind, at_ok, at_er, at_no, at_var, at_k, at_op, at_un, at_lk, at_opt, at_nil, at_cons, at_b, at_lks0, at_lks1, at_test, at_toTs0, at_toTs1, at_toTv, at_toTf, at_toTl, at_notT, ltl0, ltl1, ltl2, ltl3, ltl4, ltl5, ltl6, ltl7, ltl8, ltl9, ltl10, ltl11, ltl12, ltl13, ltl14, ltl15, ltl16, at_andT, at_orT, at_if, at_andV, at_orV, at_chain, at_set, at_drop, at_ret, at_pass, at_brk, at_cnt, at_ifS, at_seq, at_putv, at_putf, at_tup, at_lst, at_call, at_callK, at_args0, at_args1, at_argb, at_argt, at_callA, at_unp, at_btup, at_blst, at_bnil, at_bcons, at_bname, at_isi, at_notV, at_par, at_stabs0, at_stabs1, at_stabv, at_stabf, at_puts0, at_puts1, at_daug, at_store, at_chk, at_getE, at_setO, at_modE, at_meth, at_for, at_sval, at_rng1, at_sl, at_po0, at_po1, at_lc, at_dct, at_clear0, at_clear1, at_lc0, at_nox, at_yes, at_for0, at_aft_nx, at_aft_ct, at_aft_bk, at_aft_rt, at_wip0, at_wip1, Bool.and_true, look, List.getElem?_cons_zero, List.getElem?_cons_succ, List.getElem?_nil, List.set_cons_zero, List.set_cons_succ, List.set_nil, List.length_cons, List.length_nil, List.length_map, List.cons_append, List.nil_append, List.length_set, addF, subF, negF, ltF, leF, gtF, geF, isF, isnF, isNF, gcdF, absF, intF, iaddF, isiF, isi, Option.map_some, Option.map_none, Option.bind_some, Ob.data, keyT, List.map_cons, List.map_nil, argsS, bIdx, back, likeA, List.nodup_nil, List.nodup_cons, List.not_mem_nil, not_false_eq_true, and_self, and_true, true_and, if_true, if_false, ite_true, ite_false, ↓reduceIte, Bool.not_true, Bool.not_false, Bool.false_eq_true, decide_true, decide_false, Ev.finish, endOf, retOf, leave, enter, tagA, Ev.strip, retag, List.replicate, Nat.reduceAdd, Nat.reduceSub, Nat.reduceLT, Nat.reduceLeDiff, Nat.reduceEqDiff, permL, liftO, liftG, Urn.ty, Urn.st, Urn.lg, Urn.lo, eq_self, Urn.rt, line0, line1, line2, line3, line4, line5, line6, line7, line8, line9, line10, line11, line12, line13, line14, line15, line16, Urn.g_cells, Urn.g_at, Urn.g_deep, Urn.g_mix, Urn.g_turn, Urn.d_at, Urn.d_turn, Urn.p_at, Urn.p_deep, Urn.p_mix, Urn.p_turn, eq_int, ne_int, eq_bool, ne_bool, ten18, ten15, lenF, runFn, obT, lawB, e1, e2, e3, e4, e5, f1, m1, m2, m3, m4, ix0, ix1, e6, e7, e8, e9, e10, e11, f2, f3, hg, k1, k2, e12, e13, e14, Int.reduceNeg, Int.neg_neg, Int.neg_zero, f4', e15, m7, g1, g2, e16, e17, e18, d1, f5, e19, m5, m6, slF, cut1, itemsOf, at_lc1, n1, n2, n3, n4, n5, n6, n7, f6]
  · have o1 : ord gap = 1 := by unfold ord; rw [if_neg (by omega), if_pos (by omega)]
    have o2 : ord (-gap) = -1 := if_pos (by omega)
    rw [o1] at e12 ⊢
    rw [o2] at e13
    have f4' := same_refl 2 m _ (pl3 (.int (1)) (.int (-1)) (.int 0) trivial trivial trivial) (by omega)
    have k1 : ¬ gap < 0 := by omega
    have k2 : 0 < gap := hgap
    simp only [at_bind, at_ok, at_er, at_no, at_var, at_k, at_op, at_un, at_lk, at_opt, at_nil, at_cons, at_b, at_lks0, at_lks1, at_test, at_toTs0, at_toTs1, at_toTv, at_toTf, at_toTl, at_notT, ltl0, ltl1, ltl2, ltl3, ltl4, ltl5, ltl6, ltl7, ltl8, ltl9, ltl10, ltl11, ltl12, ltl13, ltl14, ltl15, ltl16, at_andT, at_orT, at_if, at_andV, at_orV, at_chain, at_set, at_drop, at_ret, at_pass, at_brk, at_cnt, at_ifS, at_seq, at_putv, at_putf, at_tup, at_lst, at_call, at_callK, at_args0, at_args1, at_argb, at_argt, at_callA, at_unp, at_btup, at_blst, at_bnil, at_bcons, at_bname, at_isi, at_notV, at_par, at_stabs0, at_stabs1, at_stabv, at_stabf, at_puts0, at_puts1, at_daug, at_store, at_chk, at_getE, at_setO, at_modE, at_meth, at_for, at_sval, at_rng1, at_sl, at_po0, at_po1, at_lc, at_dct, at_clear0, at_clear1, at_lc0, at_nox, at_yes, at_for0, at_aft_nx, at_aft_ct, at_aft_bk, at_aft_rt, at_wip0, at_wip1, Bool.and_true, look, List.getElem?_cons_zero, List.getElem?_cons_succ, List.getElem?_nil, List.set_cons_zero, List.set_cons_succ, List.set_nil, List.length_cons, List.length_nil, List.length_map, List.cons_append, List.nil_append, List.length_set, addF, subF, negF, ltF, leF, gtF, geF, isF, isnF, isNF, gcdF, absF, intF, iaddF, isiF, isi, Option.map_some, Option.map_none, Option.bind_some, Ob.data, keyT, List.map_cons, List.map_nil, argsS, bIdx, back, likeA, List.nodup_nil, List.nodup_cons, List.not_mem_nil, not_false_eq_true, and_self, and_true, true_and, if_true, if_false, ite_true, ite_false, ↓reduceIte, Bool.not_true, Bool.not_false, Bool.false_eq_true, decide_true, decide_false, Ev.finish, endOf, retOf, leave, enter, tagA, Ev.strip, retag, List.replicate, Nat.reduceAdd, Nat.reduceSub, Nat.reduceLT, Nat.reduceLeDiff, Nat.reduceEqDiff, permL, liftO, liftG, Urn.ty, Urn.st, Urn.lg, Urn.lo, eq_self, Urn.rt, line0, line1, line2, line3, line4, line5, line6, line7, line8, line9, line10, line11, line12, line13, line14, line15, line16, Urn.g_cells, Urn.g_at, Urn.g_deep, Urn.g_mix, Urn.g_turn, Urn.d_at, Urn.d_turn, Urn.p_at, Urn.p_deep, Urn.p_mix, Urn.p_turn, eq_int, ne_int, eq_bool, ne_bool, ten18, ten15, lenF, runFn, obT, lawB, e1, e2, e3, e4, e5, f1, m1, m2, m3, m4, ix0, ix1, e6, e7, e8, e9, e10, e11, f2, f3, hg, k1, k2, e12, e13, e14, Int.reduceNeg, Int.neg_neg, Int.neg_zero, f4', e15, m7, g1, g2, e16, e17, e18, d1, f5, e19, m5, m6, slF, cut1, itemsOf, at_lc1, n1, n2, n3, n4, n5, n6, n7, f6]
end K00
end P_M7

section P_M8
set_option Elab.async false
set_option linter.all false
set_option maxRecDepth 100000
set_option maxHeartbeats 1000000
namespace K00
open Ev
set_option autoImplicit false
theorem law_says : LawSays Γ 12 := fun ns hl hb => by
  have eu : callN Γ 11 "_law_urn" [.v (.ro (ns.map .int))] = .rt (.fr (Urn.mk ns 0 0 41 0).ob) [.v (.ro (ns.map .int))] := by
    show runFn fn__law_urn (callN Γ 10) _ = _
    simp only [at_bind, at_ok, at_er, at_no, at_var, at_k, at_op, at_un, at_lk, at_opt, at_nil, at_cons, at_b, at_lks0, at_lks1, at_test, at_toTs0, at_toTs1, at_toTv, at_toTf, at_toTl, at_notT, ltl0, ltl1, ltl2, ltl3, ltl4, ltl5, ltl6, ltl7, ltl8, ltl9, ltl10, ltl11, ltl12, ltl13, ltl14, ltl15, ltl16, at_andT, at_orT, at_if, at_andV, at_orV, at_chain, at_set, at_drop, at_ret, at_pass, at_brk, at_cnt, at_ifS, at_seq, at_putv, at_putf, at_tup, at_lst, at_call, at_callK, at_args0, at_args1, at_argb, at_argt, at_callA, at_unp, at_btup, at_blst, at_bnil, at_bcons, at_bname, at_isi, at_notV, at_par, at_stabs0, at_stabs1, at_stabv, at_stabf, at_puts0, at_puts1, at_daug, at_store, at_chk, at_getE, at_setO, at_modE, at_meth, at_for, at_sval, at_rng1, at_sl, at_po0, at_po1, at_lc, at_dct, at_clear0, at_clear1, at_lc0, at_nox, at_yes, at_for0, at_aft_nx, at_aft_ct, at_aft_bk, at_aft_rt, at_wip0, at_wip1, Bool.and_true, look, List.getElem?_cons_zero, List.getElem?_cons_succ, List.getElem?_nil, List.set_cons_zero, List.set_cons_succ, List.set_nil, List.length_cons, List.length_nil, List.length_map, List.cons_append, List.nil_append, List.length_set, addF, subF, negF, ltF, leF, gtF, geF, isF, isnF, isNF, gcdF, absF, intF, iaddF, isiF, isi, Option.map_some, Option.map_none, Option.bind_some, Ob.data, keyT, List.map_cons, List.map_nil, argsS, bIdx, back, likeA, List.nodup_nil, List.nodup_cons, List.not_mem_nil, not_false_eq_true, and_self, and_true, true_and, if_true, if_false, ite_true, ite_false, ↓reduceIte, Bool.not_true, Bool.not_false, Bool.false_eq_true, decide_true, decide_false, Ev.finish, endOf, retOf, leave, enter, tagA, Ev.strip, retag, List.replicate, Nat.reduceAdd, Nat.reduceSub, Nat.reduceLT, Nat.reduceLeDiff, Nat.reduceEqDiff, permL, liftO, liftG, Urn.ty, Urn.st, Urn.lg, Urn.lo, eq_self, Urn.rt, line0, line1, line2, line3, line4, line5, line6, line7, line8, line9, line10, line11, line12, line13, line14, line15, line16, Urn.g_cells, Urn.g_at, Urn.g_deep, Urn.g_mix, Urn.g_turn, Urn.d_at, Urn.d_turn, Urn.p_at, Urn.p_deep, Urn.p_mix, Urn.p_turn, eq_int, ne_int, eq_bool, ne_bool, ten18, ten15, lenF, runFn, obT, fn__law_urn, cd__law_urn, listF, at_dct, List.zip_cons_cons, List.zip_nil_right, mergeT, List.foldl_cons, List.foldl_nil]
    rfl
  have h0 : UOk 0 (Urn.mk ns 0 0 41 0) := ⟨Int.le_refl _, (by decide : Bd 100 41), Int.le_refl _, Int.le_refl _, fun c hc => lt_of_bits (hb c hc)⟩
  obtain ⟨e', he, P⟩ := for_inv (b := bName 2) (S := lawB (callN Γ 11)) (n := 12) (fun i e => ∃ (u : Urn) (s2 s3 s4 s5 s6 s7 s8 s9 s10 s11 s12 s13 s14 s15 : Sl), e = [.v (.ro (ns.map .int)), .own u.ob, s2, s3, s4, s5, s6, s7, s8, s9, s10, s11, s12, s13, s14, s15, .non] ∧ UOk (10 * i) u) (fun i t e li p => by
    obtain ⟨u, s2, s3, s4, s5, s6, s7, s8, s9, s10, s11, s12, s13, s14, s15, rfl, hu⟩ := p
    obtain ⟨u', z3, z4, z5, z6, z7, z8, z9, z10, z11, z12, z13, z14, z15, e1, k1⟩ := turnB (m := 11) (by decide) hu (by omega) (.ro (ns.map .int)) t s2 s3 s4 s5 s6 s7 s8 s9 s10 s11 s12 s13 s14 s15
    refine ⟨_, ?_, u', .v t, z3, z4, z5, z6, z7, z8, z9, z10, z11, z12, z13, z14, z15, rfl, k1⟩
    simp only [at_bind, at_ok, at_er, at_no, at_var, at_k, at_op, at_un, at_lk, at_opt, at_nil, at_cons, at_b, at_lks0, at_lks1, at_test, at_toTs0, at_toTs1, at_toTv, at_toTf, at_toTl, at_notT, ltl0, ltl1, ltl2, ltl3, ltl4, ltl5, ltl6, ltl7, ltl8, ltl9, ltl10, ltl11, ltl12, ltl13, ltl14, ltl15, ltl16, at_andT, at_orT, at_if, at_andV, at_orV, at_chain, at_set, at_drop, at_ret, at_pass, at_brk, at_cnt, at_ifS, at_seq, at_putv, at_putf, at_tup, at_lst, at_call, at_callK, at_args0, at_args1, at_argb, at_argt, at_callA, at_unp, at_btup, at_blst, at_bnil, at_bcons, at_bname, at_isi, at_notV, at_par, at_stabs0, at_stabs1, at_stabv, at_stabf, at_puts0, at_puts1, at_daug, at_store, at_chk, at_getE, at_setO, at_modE, at_meth, at_for, at_sval, at_rng1, at_sl, at_po0, at_po1, at_lc, at_dct, at_clear0, at_clear1, at_lc0, at_nox, at_yes, at_for0, at_aft_nx, at_aft_ct, at_aft_bk, at_aft_rt, at_wip0, at_wip1, Bool.and_true, look, List.getElem?_cons_zero, List.getElem?_cons_succ, List.getElem?_nil, List.set_cons_zero, List.set_cons_succ, List.set_nil, List.length_cons, List.length_nil, List.length_map, List.cons_append, List.nil_append, List.length_set, addF, subF, negF, ltF, leF, gtF, geF, isF, isnF, isNF, gcdF, absF, intF, iaddF, isiF, isi, Option.map_some, Option.map_none, Option.bind_some, Ob.data, keyT, List.map_cons, List.map_nil, argsS, bIdx, back, likeA, List.nodup_nil, List.nodup_cons, List.not_mem_nil, not_false_eq_true, and_self, and_true, true_and, if_true, if_false, ite_true, ite_false, ↓reduceIte, Bool.not_true, Bool.not_false, Bool.false_eq_true, decide_true, decide_false, Ev.finish, endOf, retOf, leave, enter, tagA, Ev.strip, retag, List.replicate, Nat.reduceAdd, Nat.reduceSub, Nat.reduceLT, Nat.reduceLeDiff, Nat.reduceEqDiff, permL, liftO, liftG, Urn.ty, Urn.st, Urn.lg, Urn.lo, eq_self, Urn.rt, line0, line1, line2, line3, line4, line5, line6, line7, line8, line9, line10, line11, line12, line13, line14, line15, line16, Urn.g_cells, Urn.g_at, Urn.g_deep, Urn.g_mix, Urn.g_turn, Urn.d_at, Urn.d_turn, Urn.p_at, Urn.p_deep, Urn.p_mix, Urn.p_turn, eq_int, ne_int, eq_bool, ne_bool, ten18, ten15, lenF, runFn, obT, e1]) (rngTs 0 (Int.toNat 12)) 0 [.v (.ro (ns.map .int)), .own (Urn.mk ns 0 0 41 0).ob, .non, .non, .non, .non, .non, .non, .non, .non, .non, .non, .non, .non, .non, .non, .non] (by rw [rng_len]; decide) ⟨_, _, _, _, _, _, _, _, _, _, _, _, _, _, _, rfl, h0⟩
  obtain ⟨u, s2, s3, s4, s5, s6, s7, s8, s9, s10, s11, s12, s13, s14, s15, rfl, hu⟩ := P
  refine ⟨[.v (.ro (ns.map .int))], ?_⟩
  show runFn fn_law (callN Γ 11) _ = _
  have ec : cd_law (callN Γ 11) = mSeq (mSet 1 (mCall (callN Γ 11) "_law_urn" [false] (mCons (mVar 0) mNil))) (mSeq (mFor (sRng1 (mCons (mK (.int 12)) mNil)) (bName 2) (lawB (callN Γ 11))) (mRet (mK (.bool true)))) := rfl
  simp only [at_bind, at_ok, at_er, at_no, at_var, at_k, at_op, at_un, at_lk, at_opt, at_nil, at_cons, at_b, at_lks0, at_lks1, at_test, at_toTs0, at_toTs1, at_toTv, at_toTf, at_toTl, at_notT, ltl0, ltl1, ltl2, ltl3, ltl4, ltl5, ltl6, ltl7, ltl8, ltl9, ltl10, ltl11, ltl12, ltl13, ltl14, ltl15, ltl16, at_andT, at_orT, at_if, at_andV, at_orV, at_chain, at_set, at_drop, at_ret, at_pass, at_brk, at_cnt, at_ifS, at_seq, at_putv, at_putf, at_tup, at_lst, at_call, at_callK, at_args0, at_args1, at_argb, at_argt, at_callA, at_unp, at_btup, at_blst, at_bnil, at_bcons, at_bname, at_isi, at_notV, at_par, at_stabs0, at_stabs1, at_stabv, at_stabf, at_puts0, at_puts1, at_daug, at_store, at_chk, at_getE, at_setO, at_modE, at_meth, at_for, at_sval, at_rng1, at_sl, at_po0, at_po1, at_lc, at_dct, at_clear0, at_clear1, at_lc0, at_nox, at_yes, at_for0, at_aft_nx, at_aft_ct, at_aft_bk, at_aft_rt, at_wip0, at_wip1, Bool.and_true, look, List.getElem?_cons_zero, List.getElem?_cons_succ, List.getElem?_nil, List.set_cons_zero, List.set_cons_succ, List.set_nil, List.length_cons, List.length_nil, List.length_map, List.cons_append, List.nil_append, List.length_set, addF, subF, negF, ltF, leF, gtF, geF, isF, isnF, isNF, gcdF, absF, intF, iaddF, isiF, isi, Option.map_some, Option.map_none, Option.bind_some, Ob.data, keyT, List.map_cons, List.map_nil, argsS, bIdx, back, likeA, List.nodup_nil, List.nodup_cons, List.not_mem_nil, not_false_eq_true, and_self, and_true, true_and, if_true, if_false, ite_true, ite_false, ↓reduceIte, Bool.not_true, Bool.not_false, Bool.false_eq_true, decide_true, decide_false, Ev.finish, endOf, retOf, leave, enter, tagA, Ev.strip, retag, List.replicate, Nat.reduceAdd, Nat.reduceSub, Nat.reduceLT, Nat.reduceLeDiff, Nat.reduceEqDiff, permL, liftO, liftG, Urn.ty, Urn.st, Urn.lg, Urn.lo, eq_self, Urn.rt, line0, line1, line2, line3, line4, line5, line6, line7, line8, line9, line10, line11, line12, line13, line14, line15, line16, Urn.g_cells, Urn.g_at, Urn.g_deep, Urn.g_mix, Urn.g_turn, Urn.d_at, Urn.d_turn, Urn.p_at, Urn.p_deep, Urn.p_mix, Urn.p_turn, eq_int, ne_int, eq_bool, ne_bool, ten18, ten15, lenF, runFn, obT, fn_law, ec, eu, r12, he]
theorem all_holds : PySem.Challenge.rw_wholeshapes_k00_fractions.Holds := holds_of ⟨by decide, by decide, by decide⟩ law_says
end K00
end P_M8

theorem PySem.Challenge.cw_wholeshapes_k00_fractions_holds : PySem.Challenge.rw_wholeshapes_k00_fractions.Holds := by
  exact K00.all_holds
