import PyProof.Rows.All
import Wide.All
import OpenK.AllK
import Wide.FinOn
import HandS.ForMost
import HandS.Exc
import HandS.ExcOwn
import HandS.WordsExc
import HandS.IsInst
import HandS.Gcd
import HandS.Wide
import HandS.WideBits
import HandS.TupAny
import HandS.NoneIn
import HandS.Style
import HandS.TryOnly
import HandS.Zip
import HandS.More
import HandS.SortInts
import HandS.Codes
import HandS.HeadHook1
import PyProof.ReprRoads
import HandS.Text
import HandS.RaiseMore
import HandS.FStr
import HandS.Iter
import HandS.DictComp
import HandS.Rev
import KE.KDictZip
import HandS.HeadHook3
import KE.KStateDown
import HandS.Head0
import HandS.Head1
import HandS.Head2
import HandS.HeadHook2
import HandS.EndBits
import HandS.Head3
import PySem.Challenge.RW_wholeshapes_k20_whole_sayings_by_reckoni

section P_Ev0
set_option Elab.async false
set_option linter.all false
set_option maxRecDepth 100000
/-! Ev0: data behind values, owned slots, the relation of a pure environment to slots and heap. -/
namespace Ev
open PySem L2 PySem.Spec
open PyProof.Rows hiding St
set_option autoImplicit false
/-- data: what the library's PyData tells, and: a list that is read alone (ro), a def or class of the module by its name (fn) -/
inductive T where
  | none
  | bool (b : Bool)
  | int (i : Int)
  | str (s : PySem.Str)
  | list (xs : List T)
  | tuple (xs : List T)
  | dict (kvs : List (T × T))
  | ro (xs : List T)
  | fn (x : PySem.Str)
def keyT : Key → T
  | .inl i => .int i
  | .inr x => .str x
/-- what is fixed through a whole law: the written part, the module's names -/
structure Gk where
  K : PySem.W.Frag
  mg : PySem.Str → Option Value
/-- .. and through a def's body: where what was lent to it stands -/
structure KB where
  K : PySem.W.Frag
  β : Nat → Addr
instance : Coe KB PySem.W.Frag := ⟨KB.K⟩
/-- what is wanted of an exception; where what was lent stands -/
structure WB where
  w : WX
  β : Nat → Addr
instance : CoeFun WB (fun _ => WX) := ⟨WB.w⟩
def kb (g : Gk) (W : WB) : KB := ⟨g.K, W.β⟩

mutual
inductive Rp (K : PySem.W.Frag) (H : Hp) : V → T → Prop
  | non : Rp K H .non .none
  | bl (b : Bool) : Rp K H (.bl b) (.bool b)
  | int (i : Int) : Rp K H (.int i) (.int i)
  | str (x : PySem.Str) : Rp K H (.str x) (.str x)
  | lst {a : Addr} {xs : List V} {ds : List T} : H a = some (.lst xs) → RpL K H xs ds → Rp K H (.ref a) (.list ds)
  | ro {a : Addr} {xs : List V} {ds : List T} : SqL K H a xs → RpL K H xs ds → Rp K H (.ref a) (.ro ds)
  | tup {a : Addr} {xs : List V} {ds : List T} : SqT K H a xs → RpL K H xs ds → Rp K H (.ref a) (.tuple ds)
  | dct {a : Addr} {kvs : List (Key × V)} {ds : List (T × T)} : Rd H a (.dK kvs) → RpKv K H kvs ds → Rp K H (.ref a) (.dict ds)
inductive RpL (K : PySem.W.Frag) (H : Hp) : List V → List T → Prop
  | nil : RpL K H [] []
  | cons {v : V} {vs : List V} {d : T} {ds : List T} : Rp K H v d → RpL K H vs ds → RpL K H (v :: vs) (d :: ds)
inductive RpKv (K : PySem.W.Frag) (H : Hp) : List (Key × V) → List (T × T) → Prop
  | nil : RpKv K H [] []
  | cons {k : Key} {v : V} {kvs : List (Key × V)} {d : T} {ds : List (T × T)} : Rp K H v d → RpKv K H kvs ds → RpKv K H ((k, v) :: kvs) ((keyT k, d) :: ds)
end

section
variable {K : PySem.W.Frag} {H H' : Hp}
theorem rd_mono {a : Addr} {u : HO} (e : Same H H') (h : Rd H a u) : Rd H' a u := by
  rcases h with h | ⟨o, h⟩
  · exact .inl (e _ _ h)
  · exact .inr ⟨o, e _ _ h⟩
theorem sqT_mono {a : Addr} {xs : List V} (e : Same H H') (h : SqT K H a xs) : SqT K H' a xs := by
  rcases h with (h | ⟨o, h⟩) | h
  · exact .inl (.inl (e _ _ h))
  · exact .inl (.inr ⟨o, e _ _ h⟩)
  · exact .inr h
mutual
theorem Rp.mono (e : Same H H') : ∀ {v : V} {t : T}, Rp K H v t → Rp K H' v t
  | _, _, .non => .non
  | _, _, .bl b => .bl b
  | _, _, .int i => .int i
  | _, _, .str x => .str x
  | _, _, .lst h r => .lst (e _ _ h) (RpL.mono e r)
  | _, _, .ro h r => .ro (e.seq h) (RpL.mono e r)
  | _, _, .tup h r => .tup (sqT_mono e h) (RpL.mono e r)
  | _, _, .dct h r => .dct (rd_mono e h) (RpKv.mono e r)
theorem RpL.mono (e : Same H H') : ∀ {vs : List V} {ts : List T}, RpL K H vs ts → RpL K H' vs ts
  | _, _, .nil => .nil
  | _, _, .cons h r => .cons (Rp.mono e h) (RpL.mono e r)
theorem RpKv.mono (e : Same H H') : ∀ {vs : List (Key × V)} {ts : List (T × T)}, RpKv K H vs ts → RpKv K H' vs ts
  | _, _, .nil => .nil
  | _, _, .cons h r => .cons (Rp.mono e h) (RpKv.mono e r)
end
theorem RpL.length : ∀ {vs : List V} {ts : List T}, RpL K H vs ts → vs.length = ts.length
  | _, _, .nil => rfl
  | _, _, .cons _ r => by rw [List.length_cons, List.length_cons, RpL.length r]
theorem RpL.get : ∀ {vs : List V} {ts : List T} {i : Nat} {t : T}, RpL K H vs ts → ts[i]? = some t → ∃ v, vs[i]? = some v ∧ Rp K H v t
  | _, _, _, _, .nil, e => by simp at e
  | _, _, 0, _, .cons h _, e => by simp at e; subst e; exact ⟨_, rfl, h⟩
  | _, _, i + 1, t, .cons _ r, e => by
    obtain ⟨v, h1, h2⟩ := RpL.get (i := i) (t := t) r (by simpa using e)
    exact ⟨v, by simpa using h1, h2⟩
theorem RpL.getV : ∀ {vs : List V} {ts : List T} {i : Nat} {v : V}, RpL K H vs ts → vs[i]? = some v → ∃ t, ts[i]? = some t ∧ Rp K H v t
  | _, _, _, _, .nil, e => by simp at e
  | _, _, 0, _, .cons h _, e => by simp at e; subst e; exact ⟨_, rfl, h⟩
  | _, _, i + 1, t, .cons _ r, e => by
    obtain ⟨v, h1, h2⟩ := RpL.getV (i := i) (v := t) r (by simpa using e)
    exact ⟨v, by simpa using h1, h2⟩
theorem RpL.append : ∀ {vs ws : List V} {ts us : List T}, RpL K H vs ts → RpL K H ws us → RpL K H (vs ++ ws) (ts ++ us)
  | _, _, _, _, .nil, s => s
  | _, _, _, _, .cons h r, s => .cons h (RpL.append r s)
theorem RpL.set {v : V} {t : T} (q : Rp K H v t) : ∀ {vs : List V} {ts : List T} (i : Nat), RpL K H vs ts → RpL K H (vs.set i v) (ts.set i t)
  | _, _, _, .nil => .nil
  | _, _, 0, .cons _ r => .cons q r
  | _, _, i + 1, .cons h r => .cons h (RpL.set q i r)
theorem RpL.take : ∀ {vs : List V} {ts : List T} (n : Nat), RpL K H vs ts → RpL K H (vs.take n) (ts.take n)
  | _, _, 0, _ => .nil
  | _, _, _ + 1, .nil => .nil
  | _, _, n + 1, .cons h r => .cons h (RpL.take n r)
theorem RpL.drop : ∀ {vs : List V} {ts : List T} (n : Nat), RpL K H vs ts → RpL K H (vs.drop n) (ts.drop n)
  | _, _, 0, r => r
  | _, _, _ + 1, .nil => .nil
  | _, _, n + 1, .cons _ r => RpL.drop n r
end

/-- an object that one slot alone holds -/
inductive Ob where
  | lst (ts : List T)
  | dct (kvs : List (Key × T))
  | tg (j : Nat) (o : Ob)
def Ob.data : Ob → T
  | .tg _ o => o.data
  | .lst ts => .list ts
  | .dct kvs => .dict (kvs.map fun p => (keyT p.1, p.2))
inductive Sl where
  | non
  | v (t : T)
  | own (o : Ob)
abbrev Sls := List Sl
abbrev SetA := Addr → Prop
/-- an address that a slot owns -/
def SO (env : Sls) (σ : St) (p : Addr) : Prop := ∃ (i : Nat) (o : Ob), env[i]? = some (Sl.own o) ∧ σ[i]? = some (some (V.ref p))
open Classical in
noncomputable def hid (Z : SetA) (env : Sls) (σ : St) (H : Hp) : Hp := fun p => if Z p ∨ SO env σ p then none else H p
theorem hid_some {Z : SetA} {env : Sls} {σ : St} {H : Hp} {p : Addr} {o : HO} : hid Z env σ H p = some o ↔ (¬ Z p ∧ ¬ SO env σ p ∧ H p = some o) := by
  unfold hid
  split
  · rename_i h
    constructor
    · intro z; cases z
    · rintro ⟨a, b, _⟩; exact (h.elim a b).elim
  · rename_i h
    exact ⟨fun z => ⟨fun a => h (.inl a), fun a => h (.inr a), z⟩, fun z => z.2.2⟩
theorem hid_le {Z : SetA} {env : Sls} {σ : St} {H : Hp} : Same (hid Z env σ H) H := fun _ _ h => (hid_some.mp h).2.2

inductive KvR (K : PySem.W.Frag) (H : Hp) : List (Key × V) → List (Key × T) → Prop
  | nil : KvR K H [] []
  | cons {k : Key} {v : V} {kvs : List (Key × V)} {d : T} {ds : List (Key × T)} : Rp K H v d → KvR K H kvs ds → KvR K H ((k, v) :: kvs) ((k, d) :: ds)
theorem KvR.mono {K : PySem.W.Frag} {H H' : Hp} (e : Same H H') : ∀ {vs : List (Key × V)} {ts : List (Key × T)}, KvR K H vs ts → KvR K H' vs ts
  | _, _, .nil => .nil
  | _, _, .cons h r => .cons (h.mono e) (KvR.mono e r)
theorem KvR.data {K : PySem.W.Frag} {H : Hp} : ∀ {vs : List (Key × V)} {ts : List (Key × T)}, KvR K H vs ts → RpKv K H vs (ts.map fun p => (keyT p.1, p.2))
  | _, _, .nil => .nil
  | _, _, .cons h r => .cons h (KvR.data r)
/-- the object at a: its own cell read in H, what it holds in G -/
def RepOb (K : KB) (G H : Hp) (a : Addr) : Ob → Prop
  | .lst ts => ∃ vs, H a = some (.lst vs) ∧ RpL K G vs ts
  | .dct kvs => ∃ ws, H a = some (.dK ws) ∧ KvR K G ws kvs
  | .tg j o => a = K.β j ∧ RepOb K G H a o
theorem RepOb.mono {K : KB} {G G' H H' : Hp} {a : Addr} (e : Same G G') (ha : ∀ u, H a = some u → H' a = some u) : ∀ {o : Ob}, RepOb K G H a o → RepOb K G' H' a o
  | .lst ts, ⟨vs, h1, h2⟩ => ⟨vs, ha _ h1, h2.mono e⟩
  | .dct kvs, ⟨vs, h1, h2⟩ => ⟨vs, ha _ h1, h2.mono e⟩
  | .tg j o, ⟨h1, h2⟩ => ⟨h1, RepOb.mono (o := o) e ha h2⟩
theorem RepOb.dom {K : KB} {G H : Hp} {a : Addr} : ∀ {o : Ob}, RepOb K G H a o → ∃ u, H a = some u
  | .lst ts, ⟨vs, h1, _⟩ => ⟨_, h1⟩
  | .dct kvs, ⟨vs, h1, _⟩ => ⟨_, h1⟩
  | .tg j o, ⟨_, h⟩ => RepOb.dom (o := o) h
/-- read as data, where its own cell is seen too -/
theorem RepOb.rp {K : KB} {G H F : Hp} {a : Addr} (e : Same G F) (ha : ∀ u, H a = some u → F a = some u) : ∀ {o : Ob}, RepOb K G H a o → Rp K F (.ref a) o.data
  | .lst ts, ⟨vs, h1, h2⟩ => .lst (ha _ h1) (h2.mono e)
  | .dct kvs, ⟨vs, h1, h2⟩ => .dct (.of (ha _ h1)) (h2.mono e).data
  | .tg j o, ⟨_, h⟩ => RepOb.rp (o := o) e ha h

structure RepEnv (K : KB) (Z : SetA) (env : Sls) (σ : St) (H : Hp) : Prop where
  len : env.length = σ.length
  v : ∀ (i : Nat) (t : T), env[i]? = some (Sl.v t) → ∃ x : V, σ[i]? = some (some x) ∧ Rp K (hid Z env σ H) x t
  own : ∀ (i : Nat) (o : Ob), env[i]? = some (Sl.own o) → ∃ a : Addr, σ[i]? = some (some (V.ref a)) ∧ ¬ Z a ∧ RepOb K (hid Z env σ H) H a o
  inj : ∀ (i j : Nat) (o o' : Ob) (a : Addr), env[i]? = some (Sl.own o) → env[j]? = some (Sl.own o') → σ[i]? = some (some (V.ref a)) → σ[j]? = some (some (V.ref a)) → i = j
  zd : ∀ p, Z p → ∃ o, H p = some o

structure Post (K : KB) (Z : SetA) (env : Sls) (σ : St) (H : Hp) (Z' : SetA) (env' : Sls) (σ' : St) (H' : Hp) : Prop where
  rep : RepEnv K Z' env' σ' H'
  fr : ∀ p o, H p = some o → ¬ SO env σ p → H' p = some o
  dom : ∀ p o, H p = some o → ∃ o', H' p = some o'
  so : ∀ p, SO env' σ' p → SO env σ p ∨ H p = none
  zs : ∀ p, Z p → Z' p
  zn : ∀ p, Z' p → Z p ∨ H p = none

section
variable {K : KB} {Z Z' Z'' : SetA} {env env' env'' : Sls} {σ σ' σ'' : St} {H H' H'' : Hp}
theorem RepEnv.post (r : RepEnv K Z env σ H) : Post K Z env σ H Z env σ H :=
  ⟨r, fun _ _ h _ => h, fun _ o h => ⟨o, h⟩, fun _ h => .inl h, fun _ h => h, fun _ h => .inl h⟩
theorem RepEnv.so_dom (r : RepEnv K Z env σ H) {p : Addr} (h : SO env σ p) : ∃ o, H p = some o := by
  obtain ⟨i, o, h1, h2⟩ := h
  obtain ⟨a, h3, _, h4⟩ := r.own i o h1
  rw [h2] at h3; injection h3 with h3; injection h3 with h3; injection h3 with h3
  subst h3
  exact h4.dom
theorem RepEnv.z_so (r : RepEnv K Z env σ H) {p : Addr} (hz : Z p) : ¬ SO env σ p := by
  rintro ⟨i, o, h1, h2⟩
  obtain ⟨a, h3, h5, _⟩ := r.own i o h1
  rw [h2] at h3; injection h3 with h3; injection h3 with h3; injection h3 with h3
  subst h3
  exact h5 hz
theorem Post.none (p1 : Post K Z env σ H Z' env' σ' H') {p : Addr} (h : H' p = Option.none) : H p = Option.none := by
  cases q : H p with
  | none => rfl
  | some o =>
    obtain ⟨o', e⟩ := p1.dom p o q
    rw [h] at e; cases e
theorem Post.trans (p1 : Post K Z env σ H Z' env' σ' H') (p2 : Post K Z' env' σ' H' Z'' env'' σ'' H'') : Post K Z env σ H Z'' env'' σ'' H'' where
  rep := p2.rep
  fr := fun p o h hn => p2.fr p o (p1.fr p o h hn) fun z => (p1.so p z).elim hn fun z => by rw [h] at z; cases z
  dom := fun p o h => let ⟨o', e⟩ := p1.dom p o h; p2.dom p o' e
  so := fun p h => (p2.so p h).elim (p1.so p) fun z => .inr (p1.none z)
  zs := fun p h => p2.zs p (p1.zs p h)
  zn := fun p h => (p2.zn p h).elim (p1.zn p) fun z => .inr (p1.none z)
/-- what is seen stays seen -/
theorem Post.same (p1 : Post K Z env σ H Z' env' σ' H') : Same (hid Z env σ H) (hid Z' env' σ' H') := fun p o h => by
  obtain ⟨h1, h2, h3⟩ := hid_some.mp h
  refine hid_some.mpr ⟨fun z => ?_, fun z => ?_, p1.fr p o h3 h2⟩
  · rcases p1.zn p z with z | z
    · exact h1 z
    · rw [h3] at z; cases z
  · rcases p1.so p z with z | z
    · exact h2 z
    · rw [h3] at z; cases z
/-- forget what was hidden -/
theorem hid_lessZ (hz : ∀ p, Z p → Z' p) : Same (hid Z' env σ H) (hid Z env σ H) := fun p o h => by
  obtain ⟨h1, h2, h3⟩ := hid_some.mp h
  exact hid_some.mpr ⟨fun z => h1 (hz p z), h2, h3⟩
theorem RepEnv.lessZ (r : RepEnv K Z' env σ H) (hz : ∀ p, Z p → Z' p) : RepEnv K Z env σ H where
  len := r.len
  v := fun i t h => let ⟨x, h1, h2⟩ := r.v i t h; ⟨x, h1, h2.mono (hid_lessZ hz)⟩
  own := fun i o h => let ⟨a, h1, h2, h3⟩ := r.own i o h; ⟨a, h1, fun z => h2 (hz a z), h3.mono (hid_lessZ hz) fun _ e => e⟩
  inj := r.inj
  zd := fun p h => r.zd p (hz p h)
theorem Post.lessZ (p1 : Post K Z env σ H Z' env' σ' H') : Post K Z env σ H Z env' σ' H' :=
  ⟨p1.rep.lessZ p1.zs, p1.fr, p1.dom, p1.so, fun _ h => h, fun _ h => .inl h⟩
end

/-! ### results -/
inductive Vw where
  | v (t : T)
  | sl (i : Nat)
  | fr (o : Ob)
structure Exc where
  cls : PySem.Str
  val : T
inductive R (α : Type) where
  | ok (a : α) (e : Sls)
  | er (x : Exc) (e : Sls)
  | no
abbrev M (α : Type) := Sls → R α
def R.bind {α β : Type} (r : R α) (f : α → M β) : R β := match r with
  | .ok a e => f a e
  | .er x e => .er x e
  | .no => .no
def M.bind {α β : Type} (m : M α) (f : α → M β) : M β := fun e => (m e).bind f
def M.pure {α : Type} (a : α) : M α := fun e => .ok a e
def look (r : Vw) (e : Sls) : Option T := match r with
  | .v t => some t
  | .fr o => some o.data
  | .sl i => match e[i]? with
    | some (.own o) => some o.data
    | some (.v t) => some t
    | _ => none
/-- as plain data: an owned object is let go -/
def toT (r : Vw) : M T := fun e => match r with
  | .v t => .ok t e
  | .fr o => .ok o.data e
  | .sl i => match e[i]? with
    | some (.own o) => .ok o.data (e.set i (.v o.data))
    | some (.v t) => .ok t e
    | _ => .no
/-- a slot that has something -/
def Full (env : Sls) (i : Nat) : Prop := (∃ o, env[i]? = some (Sl.own o)) ∨ ∃ t, env[i]? = some (Sl.v t)
def Kp (env env' : Sls) : Prop := ∀ i, Full env i → Full env' i
def RR (K : KB) (Z : SetA) (env : Sls) (σ : St) (H0 H : Hp) (r : Vw) (x : V) : Prop := match r with
  | .v t => Rp K (hid Z env σ H) x t
  | .sl i => σ[i]? = some (some x) ∧ Full env i
  | .fr o => ∃ a, x = V.ref a ∧ H0 a = none ∧ Z a ∧ RepOb K (hid Z env σ H) H a o
section
variable {K : KB} {Z Z' Z'' : SetA} {env env' env'' : Sls} {σ : St} {H0 H H' H'' : Hp} {r : Vw} {x : V} {t : T}
theorem RR.step (h : RR K Z env σ H0 H r x) (rE : RepEnv K Z env σ H) (p : Post K Z env σ H Z' env' σ H') (k : Kp env env') : RR K Z' env' σ H0 H' r x := by
  cases r with
  | v t => exact Rp.mono p.same h
  | sl i => exact ⟨h.1, k i h.2⟩
  | fr o =>
    obtain ⟨a, rfl, h1, h2, h3⟩ := h
    exact ⟨a, rfl, h1, p.zs a h2, h3.mono p.same fun u e => p.fr a u e (rE.z_so h2)⟩
/-- what it looks like now -/
theorem RR.look (h : RR K Z env σ H0 H r x) (rE : RepEnv K Z env σ H) (hl : look r env = some t) : Rp K H x t := by
  cases r with
  | v t => injection hl with e; subst e; exact Rp.mono hid_le h
  | sl i =>
    obtain ⟨h1, h2 | h2⟩ := h
    · obtain ⟨o, h2⟩ := h2
      simp only [Ev.look, h2] at hl
      injection hl with e; subst e
      obtain ⟨a, h3, _, h4⟩ := rE.own i o h2
      rw [h1] at h3; injection h3 with h3; injection h3 with h3; subst h3
      exact h4.rp hid_le fun _ e => e
    · obtain ⟨u, h2⟩ := h2
      simp only [Ev.look, h2] at hl
      injection hl with e; subst e
      obtain ⟨y, h3, h4⟩ := rE.v i u h2
      rw [h1] at h3; injection h3 with h3; injection h3 with h3; subst h3
      exact Rp.mono hid_le h4
  | fr o =>
    obtain ⟨a, rfl, h1, h2, h3⟩ := h
    injection hl with e; subst e
    exact h3.rp hid_le fun _ e => e
theorem Kp.refl : Kp env env := fun _ h => h
theorem Kp.trans (a : Kp env env') (b : Kp env' env'') : Kp env env'' := fun i h => b i (a i h)
theorem RR.start {H1 : Hp} (h : RR K Z env σ H1 H r x) (hd : ∀ p, H1 p = none → H0 p = none) : RR K Z env σ H0 H r x := by
  cases r with
  | v t => exact h
  | sl i => exact h
  | fr o => obtain ⟨a, e, h1, h2⟩ := h; exact ⟨a, e, hd a h1, h2⟩
end

/-! ### the readings -/
/-- an exception of a class of the module's: its value -/
def RX (g : Gk) (G : Hp) (x : Exc) (cls : Value) (d : Option Addr) (H : Hp) : Prop :=
  ∃ C dx v, cls = .ref C ∧ g.mg x.cls = some (.ref C) ∧ d = some dx ∧ H dx = some (.xd [("value", v)]) ∧ Rp g.K G v x.val
theorem RX.mono {g : Gk} {G G' : Hp} {x : Exc} {cls : Value} {d : Option Addr} {H : Hp} (h : RX g G x cls d H) (e : Same G G') : RX g G' x cls d H :=
  let ⟨C, dx, v, h1, h2, h3, h4, h5⟩ := h
  ⟨C, dx, v, h1, h2, h3, h4, h5.mono e⟩

/-- how a result lies: over hidden cells, slots, the heap at the start, the heap now -/
abbrev Rel (α β : Type) := SetA → Sls → Hp → Hp → α → β → Prop
/-- what follows a result -/
def Out {α β : Type} (g : Gk) (W : WB) (L : Rel α β) (σ : St) (Q : β → Hp → Prop) (Z : SetA) (env : Sls) (H : Hp) : R α → Prop
  | .ok r env' => ∀ x H' Z', Post (kb g W) Z env σ H Z' env' σ H' → Kp env env' → L Z' env' H H' r x → Q x H'
  | .er x env' => ∀ cls d H', Post (kb g W) Z env σ H Z env' σ H' → RX g (hid Z env' σ H') x cls d H' → W cls d σ H'
  | .no => False
/-- no new object of the rest stands at a -/
def NoFr (a : Addr) (rs : List Vw) (xs : List V) : Prop := ∀ (k : Nat) (o : Ob), rs[k]? = some (Vw.fr o) → xs[k]? ≠ some (V.ref a)
inductive RRs (K : KB) (Z : SetA) (env : Sls) (σ : St) (H0 H : Hp) : List Vw → List V → Prop
  | nil : RRs K Z env σ H0 H [] []
  | cons {r : Vw} {x : V} {rs : List Vw} {xs : List V} : RR K Z env σ H0 H r x → RRs K Z env σ H0 H rs xs → (∀ o a, r = .fr o → x = V.ref a → NoFr a rs xs) → RRs K Z env σ H0 H (r :: rs) (x :: xs)
abbrev LE (K : KB) (σ : St) : Rel Vw V := fun Z env H0 H r x => RR K Z env σ H0 H r x
abbrev LA (K : KB) (σ : St) : Rel (List Vw) (List V) := fun Z env H0 H r x => RRs K Z env σ H0 H r x
abbrev LB : Rel Bool Bool := fun _ _ _ _ b c => b = c
theorem RRs.start {K : KB} {Z : SetA} {env : Sls} {σ : St} {H0 H1 H : Hp} (hd : ∀ p, H1 p = none → H0 p = none) : ∀ {rs : List Vw} {xs : List V}, RRs K Z env σ H1 H rs xs → RRs K Z env σ H0 H rs xs
  | _, _, .nil => .nil
  | _, _, .cons h r n => .cons (h.start hd) (RRs.start hd r) n
theorem RRs.step {K : KB} {Z Z' : SetA} {env env' : Sls} {σ : St} {H0 H H' : Hp} (rE : RepEnv K Z env σ H) (p : Post K Z env σ H Z' env' σ H') (k : Kp env env') :
    ∀ {rs : List Vw} {xs : List V}, RRs K Z env σ H0 H rs xs → RRs K Z' env' σ H0 H' rs xs
  | _, _, .nil => .nil
  | _, _, .cons h r n => .cons (h.step rE p k) (RRs.step rE p k r) n
/-- a relation that may be told from an earlier start -/
class Back {α β : Type} (L : Rel α β) : Prop where
  start : ∀ {Z env H0 H1 H r x}, L Z env H1 H r x → (∀ p, H1 p = none → H0 p = none) → L Z env H0 H r x
instance {K : KB} {σ : St} : Back (LE K σ) := ⟨fun h hd => RR.start h hd⟩
instance {K : KB} {σ : St} : Back (LA K σ) := ⟨fun h hd => RRs.start hd h⟩
instance : Back LB := ⟨fun h _ => h⟩

def tE (g : Gk) (W : WB) (m : M Vw) : TE := fun σ H Q => ∃ Z env, RepEnv (kb g W) Z env σ H ∧ Out g W (LE (kb g W) σ) σ Q Z env H (m env)
def tT (g : Gk) (W : WB) (m : M Bool) : TT := fun σ H Q => ∃ Z env, RepEnv (kb g W) Z env σ H ∧ Out g W LB σ Q Z env H (m env)
def tA (g : Gk) (W : WB) (m : M (List Vw)) : TA := fun σ H Q => ∃ Z env, RepEnv (kb g W) Z env σ H ∧ Out g W (LA (kb g W) σ) σ Q Z env H (m env)
inductive Fl where
  | nx
  | bk
  | ct
  | rt (r : Vw)
abbrev MS := M Fl
def OutS (g : Gk) (W : WB) (D : Ends) (σ : St) (Z : SetA) (env : Sls) (H : Hp) : R Fl → Prop
  | .ok .nx env' => ∀ σ' H' Z', Post (kb g W) Z env σ H Z' env' σ' H' → D.nx σ' H'
  | .ok .bk env' => ∀ σ' H' Z', Post (kb g W) Z env σ H Z' env' σ' H' → D.bk σ' H'
  | .ok .ct env' => ∀ σ' H' Z', Post (kb g W) Z env σ H Z' env' σ' H' → D.ct σ' H'
  | .ok (.rt r) env' => ∀ x σ' H' Z', Post (kb g W) Z env σ H Z' env' σ' H' → RR (kb g W) Z' env' σ' H H' r x → D.rt x H'
  | .er x env' => ∀ cls d σ' H', Post (kb g W) Z env σ H Z env' σ' H' → RX g (hid Z env' σ' H') x cls d H' → W cls d σ' H'
  | .no => False
def tS (g : Gk) (W : WB) (m : MS) : TS := fun D σ H => ∃ Z env, RepEnv (kb g W) Z env σ H ∧ OutS g W D σ Z env H (m env)

/-- what may follow: it hears of exceptions, it is never stuck, it may be told from a later point -/
structure Ct {γ : Type} (g : Gk) (W : WB) (σ : St) (C : SetA → Sls → Hp → R γ → Prop) : Prop where
  er : ∀ {Z env H x env'}, C Z env H (.er x env') → ∀ cls d H', Post (kb g W) Z env σ H Z env' σ H' → RX g (hid Z env' σ H') x cls d H' → W cls d σ H'
  no : ∀ {Z env H}, ¬ C Z env H .no
  step : ∀ {Z env H Z1 env1 H1 r}, Post (kb g W) Z env σ H Z1 env1 σ H1 → Kp env env1 → C Z env H r → C Z1 env1 H1 r
section
variable {g : Gk} {W : WB} {σ : St} {Z Z' Z1 : SetA} {env env' env1 : Sls} {H H' H1 : Hp}
theorem Out.ct {α β : Type} {L : Rel α β} [Back L] {Q : β → Hp → Prop} : Ct g W σ (Out g W L σ Q) where
  er := fun h => h
  no := fun h => h
  step := fun {Z env H Z1 env1 H1 r} p k h => by
    cases r with
    | ok r e => exact fun x H' Z' p' k' l => h x H' Z' (p.trans p') (k.trans k') (Back.start l fun _ => p.none)
    | er x e => exact fun cls d H' p' rx => h cls d H' (p.trans p').lessZ (rx.mono (hid_lessZ p.zs))
    | no => exact h
theorem OutS.ct {D : Ends} : Ct g W σ (OutS g W D σ) where
  er := fun h cls d H' p rx => h cls d σ H' p rx
  no := fun h => h
  step := fun {Z env H Z1 env1 H1 r} p k h => by
    cases r with
    | ok r e =>
      cases r with
      | nx => exact fun σ' H' Z' p' => h σ' H' Z' (p.trans p')
      | bk => exact fun σ' H' Z' p' => h σ' H' Z' (p.trans p')
      | ct => exact fun σ' H' Z' p' => h σ' H' Z' (p.trans p')
      | rt r => exact fun x σ' H' Z' p' l => h x σ' H' Z' (p.trans p') (l.start fun _ => p.none)
    | er x e => exact fun cls d σ' H' p' rx => h cls d σ' H' (p.trans p').lessZ (rx.mono (hid_lessZ p.zs))
    | no => exact h
/-- a part, then the rest -/
theorem Ct.bind {α β γ : Type} {L : Rel α β} {C : SetA → Sls → Hp → R γ → Prop} (c : Ct g W σ C) {m : R α} {k : α → M γ} (h : C Z env H (m.bind k)) :
    Out g W L σ (fun x H1 => ∃ Z1 env1 r, Post (kb g W) Z env σ H Z1 env1 σ H1 ∧ Kp env env1 ∧ L Z1 env1 H H1 r x ∧ C Z1 env1 H1 (k r env1)) Z env H m := by
  cases m with
  | ok r e => exact fun x H1 Z1 p k1 l => ⟨Z1, e, r, p, k1, l, c.step p k1 h⟩
  | er x e => exact c.er h
  | no => exact c.no h
theorem Out.mono {α β : Type} {L : Rel α β} {Q Q' : β → Hp → Prop} {r : R α} (h : Out g W L σ Q Z env H r) (hq : ∀ x H, Q x H → Q' x H) : Out g W L σ Q' Z env H r := by
  cases r with
  | ok r e => exact fun x H1 Z1 p k l => hq _ _ (h x H1 Z1 p k l)
  | er x e => exact h
  | no => exact h
end

def _root_.L2.Cx.g (X : Cx) : Gk := ⟨X.K, X.mg⟩
abbrev XE (X : Cx) (W : WB) (e : Expr) (m : M Vw) : Prop := PE X e (tE X.g W m)
abbrev XT (X : Cx) (W : WB) (e : Expr) (m : M Bool) : Prop := PT X e (tT X.g W m)
abbrev XW (X : Cx) (W : WB) (e : Expr) (m : M Bool) : Prop := PW X e (tT X.g W m)
abbrev XA (X : Cx) (W : WB) (es : List Expr) (m : M (List Vw)) : Prop := PA X es (tA X.g W m)
abbrev XS (X : Cx) (W : WB) (st : Stmt) (m : MS) : Prop := PS X st (tS X.g W m)
abbrev XSs (X : Cx) (W : WB) (st : List Stmt) (m : MS) : Prop := PSs X st (tS X.g W m)
theorem _root_.L2.PE.weak {X : Cx} {e : Expr} {t t' : TE} (h : PE X e t) (w : ∀ σ H Q, t' σ H Q → t σ H Q) : PE X e t' := ⟨fun pins s σ H Q I q => h.run pins s σ H Q I (w σ H Q q)⟩
theorem _root_.L2.PT.weak {X : Cx} {e : Expr} {t t' : TT} (h : PT X e t) (w : ∀ σ H Q, t' σ H Q → t σ H Q) : PT X e t' := ⟨fun pins s σ H Q I q => h.run pins s σ H Q I (w σ H Q q)⟩
theorem _root_.L2.PW.weak {X : Cx} {e : Expr} {t t' : TT} (h : PW X e t) (w : ∀ σ H Q, t' σ H Q → t σ H Q) : PW X e t' := ⟨fun wh pins s σ H Q I q => h.run wh pins s σ H Q I (w σ H Q q)⟩
theorem _root_.L2.PA.weak {X : Cx} {es : List Expr} {t t' : TA} (h : PA X es t) (w : ∀ σ H Q, t' σ H Q → t σ H Q) : PA X es t' := ⟨fun pos pins s σ H Q I q => h.run pos pins s σ H Q I (w σ H Q q)⟩
theorem _root_.L2.PS.weak {X : Cx} {st : Stmt} {t t' : TS} (h : PS X st t) (w : ∀ D σ H, t' D σ H → t D σ H) : PS X st t' := ⟨fun pins s σ H D I q => h.run pins s σ H D I (w D σ H q)⟩
theorem _root_.L2.PSs.weak {X : Cx} {st : List Stmt} {t t' : TS} (h : PSs X st t) (w : ∀ D σ H, t' D σ H → t D σ H) : PSs X st t' := ⟨fun pins s σ H D I q => h.run pins s σ H D I (w D σ H q)⟩

/-! ### just-made values -/
/-- the top read in H, what it holds in G -/
inductive Rp1 (K : PySem.W.Frag) (G H : Hp) : V → T → Prop
  | non : Rp1 K G H .non .none
  | bl (b : Bool) : Rp1 K G H (.bl b) (.bool b)
  | int (i : Int) : Rp1 K G H (.int i) (.int i)
  | str (x : PySem.Str) : Rp1 K G H (.str x) (.str x)
  | lst {a : Addr} {xs : List V} {ds : List T} : H a = some (.lst xs) → RpL K G xs ds → Rp1 K G H (.ref a) (.list ds)
  | ro {a : Addr} {xs : List V} {ds : List T} : SqL K H a xs → RpL K G xs ds → Rp1 K G H (.ref a) (.ro ds)
  | tup {a : Addr} {xs : List V} {ds : List T} : SqT K G a xs → RpL K G xs ds → Rp1 K G H (.ref a) (.tuple ds)
  | dct {a : Addr} {kvs : List (Key × V)} {ds : List (T × T)} : Rd H a (.dK kvs) → RpKv K G kvs ds → Rp1 K G H (.ref a) (.dict ds)
section
variable {K : PySem.W.Frag} {G H : Hp} {v : V} {t : T}
theorem Rp.one (h : Rp K G v t) (e : Same G H) : Rp1 K G H v t := by
  cases h with
  | non => exact .non
  | bl b => exact .bl b
  | int i => exact .int i
  | str x => exact .str x
  | lst a b => exact .lst (e _ _ a) b
  | ro a b => exact .ro (e.seq a) b
  | tup a b => exact .tup a b
  | dct a b => exact .dct (rd_mono e a) b
theorem Rp1.rp (h : Rp1 K G H v t) (e : Same G H) : Rp K H v t := by
  cases h with
  | non => exact .non
  | bl b => exact .bl b
  | int i => exact .int i
  | str x => exact .str x
  | lst a b => exact .lst a (b.mono e)
  | ro a b => exact .ro a (b.mono e)
  | tup a b => exact .tup (sqT_mono e a) (b.mono e)
  | dct a b => exact .dct a (b.mono e)
theorem RepOb.one {K : KB} {a : Addr} : ∀ {o : Ob}, RepOb K G H a o → Rp1 K G H (.ref a) o.data
  | .lst ts, ⟨vs, h1, h2⟩ => .lst h1 h2
  | .dct kvs, ⟨vs, h1, h2⟩ => .dct (.of h1) h2.data
  | .tg j o, ⟨_, h⟩ => RepOb.one (o := o) h
end
section
variable {K : KB} {Z : SetA} {env : Sls} {σ : St} {H0 H : Hp} {r : Vw} {x : V} {t : T}
theorem RR.look1 (h : RR K Z env σ H0 H r x) (rE : RepEnv K Z env σ H) (hl : Ev.look r env = some t) : Rp1 K (hid Z env σ H) H x t := by
  cases r with
  | v t => injection hl with e; subst e; exact Rp.one h hid_le
  | sl i =>
    obtain ⟨h1, h2 | h2⟩ := h
    · obtain ⟨o, h2⟩ := h2
      simp only [Ev.look, h2] at hl
      injection hl with e; subst e
      obtain ⟨a, h3, _, h4⟩ := rE.own i o h2
      rw [h1] at h3; injection h3 with h3; injection h3 with h3; subst h3
      exact h4.one
    · obtain ⟨u, h2⟩ := h2
      simp only [Ev.look, h2] at hl
      injection hl with e; subst e
      obtain ⟨y, h3, h4⟩ := rE.v i u h2
      rw [h1] at h3; injection h3 with h3; injection h3 with h3; subst h3
      exact Rp.one h4 hid_le
  | fr o =>
    obtain ⟨a, rfl, h1, h2, h3⟩ := h
    injection hl with e; subst e
    exact h3.one
end
/-- a just-made value -/
def New (K : KB) (G H H' : Hp) (w : Vw) (z : V) : Prop := match w with
  | .v t => Same H H' ∧ ∀ G', Same G G' → (∀ p o, H p = none → H' p = some o → G' p = some o) → Rp K G' z t
  | .fr ob => Same H H' ∧ ∃ a, z = V.ref a ∧ H a = none ∧ RepOb K G H' a ob
  | .sl _ => False
/-- a value without parts -/
theorem New.sc {K : KB} {G H : Hp} {t : T} {z : V} (h : ∀ G', Rp K G' z t) : New K G H H (.v t) z := ⟨fun _ _ e => e, fun G' _ _ => h G'⟩
/-- it comes out -/
theorem Out.made {g : Gk} {W : WB} {σ : St} {Q : V → Hp → Prop} {Z : SetA} {env : Sls} {H H' : Hp} {w : Vw} {z : V} (h : Out g W (LE (kb g W) σ) σ Q Z env H (.ok w env)) (rE : RepEnv (kb g W) Z env σ H) (n : New (kb g W) (hid Z env σ H) H H' w z) : Q z H' := by
  cases w with
  | v t =>
    obtain ⟨sm, hr⟩ := n
    have s1 : Same (hid Z env σ H) (hid Z env σ H') := fun p o e => by
      obtain ⟨h1, h2, h3⟩ := hid_some.mp e
      exact hid_some.mpr ⟨h1, h2, sm _ _ h3⟩
    refine h z H' Z ⟨⟨rE.len, fun i t e => ?_, fun i o e => ?_, rE.inj, fun p hz => ?_⟩, fun p o e _ => sm p o e, fun p o e => ⟨o, sm p o e⟩, fun _ e => .inl e, fun _ e => e, fun _ e => .inl e⟩ Kp.refl ?_
    · obtain ⟨x, h1, h2⟩ := rE.v i t e; exact ⟨x, h1, h2.mono s1⟩
    · obtain ⟨a, h1, h2, h3⟩ := rE.own i o e; exact ⟨a, h1, h2, h3.mono s1 fun u e => sm a u e⟩
    · obtain ⟨o, e⟩ := rE.zd p hz; exact ⟨o, sm p o e⟩
    · refine hr _ s1 fun p o e1 e2 => hid_some.mpr ⟨fun hz => ?_, fun so => ?_, e2⟩
      · obtain ⟨o', e⟩ := rE.zd p hz; rw [e1] at e; cases e
      · obtain ⟨o', e⟩ := rE.so_dom so; rw [e1] at e; cases e
  | fr ob =>
    obtain ⟨sm, a, rfl, ha, hr⟩ := n
    have nso : ¬ SO env σ a := fun so => by obtain ⟨o', e⟩ := rE.so_dom so; rw [ha] at e; cases e
    have s1 : Same (hid Z env σ H) (hid (fun p => Z p ∨ p = a) env σ H') := fun p o e => by
      obtain ⟨h1, h2, h3⟩ := hid_some.mp e
      refine hid_some.mpr ⟨fun z => z.elim h1 fun z => ?_, h2, sm _ _ h3⟩
      subst z; rw [ha] at h3; cases h3
    refine h (.ref a) H' (fun p => Z p ∨ p = a) ⟨⟨rE.len, fun i t e => ?_, fun i o e => ?_, rE.inj, fun p hz => ?_⟩, fun p o e _ => sm p o e, fun p o e => ⟨o, sm p o e⟩, fun _ e => .inl e, fun _ e => .inl e, fun p e => ?_⟩ Kp.refl ?_
    · obtain ⟨x, h1, h2⟩ := rE.v i t e; exact ⟨x, h1, h2.mono s1⟩
    · obtain ⟨b, h1, h2, h3⟩ := rE.own i o e
      refine ⟨b, h1, fun z => z.elim h2 fun z => ?_, h3.mono s1 fun u e => sm b u e⟩
      subst z; exact nso ⟨i, o, e, h1⟩
    · rcases hz with hz | rfl
      · obtain ⟨o, e⟩ := rE.zd p hz; exact ⟨o, sm p o e⟩
      · exact hr.dom
    · rcases e with e | rfl
      · exact .inl e
      · exact .inr ha
    · exact ⟨a, rfl, ha, .inr rfl, hr.mono s1 fun _ e => e⟩
  | sl i => exact n.elim
end Ev
end P_Ev0

section P_Ev1
set_option Elab.async false
set_option linter.all false
set_option maxRecDepth 100000
/-! Ev1: expressions. -/
namespace Ev
open PySem L2 PySem.Spec
open PyProof.Rows hiding St
set_option autoImplicit false

/-! ### the combinators -/
def lk (r : Vw) : M T := fun e => match look r e with
  | some t => .ok t e
  | none => .no
def opt {α : Type} (o : Option α) : M α := fun e => match o with
  | some a => .ok a e
  | none => .no
def mVar (i : Nat) : M Vw := fun e => match e[i]? with
  | some (.own _) => .ok (.sl i) e
  | some (.v t) => .ok (.v t) e
  | _ => .no
def mK (t : T) : M Vw := fun e => .ok (.v t) e
def mOp (f : T → T → Option Vw) (A B : M Vw) : M Vw := A.bind fun a => B.bind fun b => (lk a).bind fun s => (lk b).bind fun t => opt (f s t)
def mUn (f : T → Option Vw) (A : M Vw) : M Vw := A.bind fun a => (lk a).bind fun s => opt (f s)
def lks : List Vw → M (List T)
  | [] => fun e => .ok [] e
  | r :: rs => (lk r).bind fun t => (lks rs).bind fun ts e => .ok (t :: ts) e
def mNil : M (List Vw) := fun e => .ok [] e
def mCons (A : M Vw) (B : M (List Vw)) : M (List Vw) := A.bind fun a => B.bind fun bs e => .ok (a :: bs) e
/-- a built-in function of values -/
def mB (f : List T → Option Vw) (A : M (List Vw)) : M Vw := A.bind fun as => (lks as).bind fun ts => opt (f ts)
def mTest (A : M Vw) : M Bool := A.bind fun a => (lk a).bind fun t e => match t with
  | .bool b => .ok b e
  | _ => .no
/-- to plain data, one by one -/
def toTs : List Vw → M (List T)
  | [] => fun e => .ok [] e
  | r :: rs => (toT r).bind fun t => (toTs rs).bind fun ts e => .ok (t :: ts) e

theorem lk_some {β : Type} {r : Vw} {env : Sls} {t : T} {f : T → M β} (h : look r env = some t) : (lk r).bind f env = f t env := by
  show R.bind (lk r env) f = _
  unfold lk; rw [h]; rfl
theorem lk_none {β : Type} {r : Vw} {env : Sls} {f : T → M β} (h : look r env = Option.none) : (lk r).bind f env = .no := by
  show R.bind (lk r env) f = _
  unfold lk; rw [h]; rfl
section
variable {g : Gk} {W : WB} {σ : St} {Z Z1 : SetA} {env env1 : Sls} {H H0 H1 : Hp}
theorem M.bind_def {α β : Type} (m : M α) (f : α → M β) (e : Sls) : (m.bind f) e = (m e).bind f := rfl

/-! ### names, constants -/
theorem rd_var {i : Nat} {Q : VK} (h : tE g W (mVar i) σ H Q) : tVar i σ H Q := by
  obtain ⟨Z, env, rE, h⟩ := h
  unfold mVar at h
  cases e : env[i]? with
  | none => rw [e] at h; exact h.elim
  | some s =>
    rw [e] at h
    cases s with
    | non => exact h.elim
    | own o =>
      obtain ⟨a, h1, h2, h3⟩ := rE.own i o e
      exact ⟨_, h1, h _ H Z rE.post Kp.refl ⟨h1, .inl ⟨o, e⟩⟩⟩
    | v t =>
      obtain ⟨x, h1, h2⟩ := rE.v i t e
      exact ⟨_, h1, h _ H Z rE.post Kp.refl h2⟩
theorem xv (X : Cx) (W : WB) (i : Nat) {x : Str} {pos : Pos} (hN : X.N[i]? = some x := by rfl) (hv : Vis X.env.scope x := by first | exact Or.inl rfl | exact Or.inr (Or.inl rfl) | exact Or.inr (Or.inr rfl)) (hd : (x == ("__debug__" : Str)) = false := by decide)
    (hcd : (x == ("__classdict__" : Str)) = false := by decide) : XE X W (.Name x pos) (mVar i) := (pe_var hN hv hd hcd).weak fun _ _ _ => rd_var
theorem rd_k {t : T} {z : V} {Q : VK} (hz : ∀ (K : PySem.W.Frag) G, Rp K G z t) (h : tE g W (mK t) σ H Q) : tC z σ H Q := by
  obtain ⟨Z, env, rE, h⟩ := h
  exact h z H Z rE.post Kp.refl (hz _ _)
variable {X : Cx}
theorem xint {i j pos} : XE X W (.Constant (.int i) j pos) (mK (.int i)) := pe_int.weak fun _ _ _ => rd_k fun _ _ => .int i
theorem xbl {b j pos} : XE X W (.Constant (.bool b) j pos) (mK (.bool b)) := pe_bl.weak fun _ _ _ => rd_k fun _ _ => .bl b
theorem xnon {j pos} : XE X W (.Constant .none j pos) (mK .none) := pe_non.weak fun _ _ _ => rd_k fun _ _ => .non
theorem xstr {x j pos} : XE X W (.Constant (.str x) j pos) (mK (.str x)) := pe_str.weak fun _ _ _ => rd_k fun _ _ => .str x

/-! ### operators -/
/-- a rule on values tells what f tells -/
def OpS (K : KB) (r : R2) (f : T → T → Option Vw) : Prop :=
  ∀ {G H : Hp} {x y : V} {s t : T} {w : Vw} {Q : VK}, Same G H → Rp1 K G H x s → Rp1 K G H y t → f s t = some w → (∀ z H', New K G H H' w z → Q z H') → r x y H Q
def UnS (K : KB) (r : V → Hp → VK → Prop) (f : T → Option Vw) : Prop :=
  ∀ {G H : Hp} {x : V} {s : T} {w : Vw} {Q : VK}, Same G H → Rp1 K G H x s → f s = some w → (∀ z H', New K G H H' w z → Q z H') → r x H Q
inductive Rp1s (K : PySem.W.Frag) (G H : Hp) : List V → List T → Prop
  | nil : Rp1s K G H [] []
  | cons {v : V} {vs : List V} {d : T} {ds : List T} : Rp1 K G H v d → Rp1s K G H vs ds → Rp1s K G H (v :: vs) (d :: ds)
def CaS (K : KB) (r : List V → Hp → VK → Prop) (f : List T → Option Vw) : Prop :=
  ∀ {G H : Hp} {xs : List V} {ts : List T} {w : Vw} {Q : VK}, Same G H → Rp1s K G H xs ts → f ts = some w → (∀ z H', New K G H H' w z → Q z H') → r xs H Q

theorem rd_op {r : R2} {f : T → T → Option Vw} (hs : OpS (kb g W) r f) {A B : M Vw} {Q : VK} (h : tE g W (mOp f A B) σ H Q) : tOp r (tE g W A) (tE g W B) σ H Q := by
  obtain ⟨Z, env, rE, h⟩ := h
  refine ⟨Z, env, rE, (Out.ct.bind h).mono fun x H1 ⟨Z1, env1, a, p1, k1, l1, c1⟩ => ?_⟩
  refine ⟨Z1, env1, p1.rep, (Out.ct.bind c1).mono fun y H2 ⟨Z2, env2, b, p2, k2, l2, c2⟩ => ?_⟩
  have l1' := l1.step p1.rep p2 k2
  cases ea : look a env2 with
  | none => rw [lk_none ea] at c2; exact c2.elim
  | some s =>
    rw [lk_some ea] at c2
    cases eb : look b env2 with
    | none => rw [lk_none eb] at c2; exact c2.elim
    | some t =>
      rw [lk_some eb] at c2
      unfold opt at c2
      cases ef : f s t with
      | none => rw [ef] at c2; exact c2.elim
      | some w =>
        rw [ef] at c2
        exact hs hid_le (l1'.look1 p2.rep ea) (l2.look1 p2.rep eb) ef fun z H' n => Out.made c2 p2.rep n
theorem rd_un {r : V → Hp → VK → Prop} {f : T → Option Vw} (hs : UnS (kb g W) r f) {A : M Vw} {Q : VK} (h : tE g W (mUn f A) σ H Q) : tUn r (tE g W A) σ H Q := by
  obtain ⟨Z, env, rE, h⟩ := h
  refine ⟨Z, env, rE, (Out.ct.bind h).mono fun x H1 ⟨Z1, env1, a, p1, k1, l1, c1⟩ => ?_⟩
  cases ea : look a env1 with
  | none => rw [lk_none ea] at c1; exact c1.elim
  | some s =>
    rw [lk_some ea] at c1
    unfold opt at c1
    cases ef : f s with
    | none => rw [ef] at c1; exact c1.elim
    | some w =>
      rw [ef] at c1
      exact hs hid_le (l1.look1 p1.rep ea) ef fun z H' n => Out.made c1 p1.rep n
theorem xop {op : Operator} {r : R2} {f : T → T → Option Vw} {a b : Expr} {A B : M Vw} {pos : Pos} (ho : OpR X (binaryOp op) r) (hs : OpS (kb X.g W) r f) (ha : XE X W a A) (hb : XE X W b B) : XE X W (.BinOp a op b pos) (mOp f A B) :=
  (pe_op ho ha hb).weak fun _ _ _ => rd_op (g := X.g) hs
theorem xun {op : UnaryOp} {r : V → Hp → VK → Prop} {f : T → Option Vw} {a : Expr} {A : M Vw} {pos : Pos} (ho : UnR X (unaryOp op) r) (hs : UnS (kb X.g W) r f) (ha : XE X W a A) : XE X W (.UnaryOp op a pos) (mUn f A) :=
  (pe_un ho ha).weak fun _ _ _ => rd_un (g := X.g) hs
theorem xcmp {op : CmpOp} {r : R2} {f : T → T → Option Vw} {a b : Expr} {A B : M Vw} {pos : Pos} (ho : OpR X (compareOp op) r) (hs : OpS (kb X.g W) r f) (ha : XE X W a A) (hb : XE X W b B) (hm : behindInMarks op b = false) : XE X W (.Compare a [op] [b] pos) (mOp f A B) :=
  (pe_cmpR ho ha hb hm).weak fun _ _ _ => rd_op (g := X.g) hs
/-- as a test -/
theorem rd_test {m : M Vw} {t : TE} (hw : ∀ σ H Q, tE g W m σ H Q → t σ H Q) {Q : Bool → Hp → Prop} (h : tT g W (mTest m) σ H Q) : t σ H fun x H' => ∃ k, x = V.bl k ∧ Q k H' := by
  obtain ⟨Z, env, rE, h⟩ := h
  refine hw _ _ _ ⟨Z, env, rE, (Out.ct.bind h).mono fun x H1 ⟨Z1, env1, a, p1, k1, l1, c1⟩ => ?_⟩
  cases ea : look a env1 with
  | none => rw [lk_none ea] at c1; exact c1.elim
  | some s =>
    rw [lk_some ea] at c1
    have q := l1.look p1.rep ea
    cases s with
    | bool b =>
      cases q
      exact ⟨b, rfl, c1 b H1 Z1 p1.rep.post Kp.refl rfl⟩
    | _ => exact c1.elim
theorem xtcmp {op : CmpOp} {r : R2} {f : T → T → Option Vw} {a b : Expr} {A B : M Vw} {pos : Pos} (ho : OpR X (compareOp op) r) (hs : OpS (kb X.g W) r f) (ha : XE X W a A) (hb : XE X W b B) (hm : behindInMarks op b = false) : XT X W (.Compare a [op] [b] pos) (mTest (mOp f A B)) :=
  (pt_cmpR ho ha hb hm).weak fun _ _ _ => rd_test (g := X.g) fun _ _ _ => rd_op (g := X.g) hs
theorem xtval {e : Expr} {m : M Vw} (h : XE X W e m) (he : ∀ whole, isTrue e X.env whole = (do let v ← whole; standAt e.pos; holding [v] (truthy v)) := by intro _; rfl) : XT X W e (mTest m) :=
  (pt_val h he).weak fun _ _ _ => rd_test (g := X.g) fun _ _ _ h => h

/-! ### not, and, or; a if t else b -/
def mNotT (A : M Bool) : M Bool := A.bind fun c e => .ok (!c) e
def mAndT (A B : M Bool) : M Bool := A.bind fun c => if c then B else fun e => .ok false e
def mOrT (A B : M Bool) : M Bool := A.bind fun c => if c then (fun e => .ok true e) else B
def mIf (C : M Bool) (A B : M Vw) : M Vw := C.bind fun c => if c then A else B
def ofB (A : M Bool) : M Vw := A.bind fun c e => .ok (.v (.bool c)) e
theorem rd_not {A : M Bool} {Q} (h : tT g W (mNotT A) σ H Q) : tNot (tT g W A) σ H Q := by
  obtain ⟨Z, env, rE, h⟩ := h
  refine ⟨Z, env, rE, (Out.ct.bind h).mono fun c H1 ⟨Z1, env1, a, p1, k1, l1, c1⟩ => ?_⟩
  have ec : a = c := l1
  subst ec
  exact c1 _ H1 Z1 p1.rep.post Kp.refl rfl
theorem rd_and {A B : M Bool} {Q} (h : tT g W (mAndT A B) σ H Q) : tAnd (tT g W A) (tT g W B) σ H Q := by
  obtain ⟨Z, env, rE, h⟩ := h
  refine ⟨Z, env, rE, (Out.ct.bind h).mono fun c H1 ⟨Z1, env1, a, p1, k1, l1, c1⟩ => ?_⟩
  have ec : a = c := l1
  subst ec
  cases a with
  | true => rw [if_pos rfl]; exact ⟨Z1, env1, p1.rep, c1⟩
  | false => rw [if_neg Bool.false_ne_true]; exact c1 _ H1 Z1 p1.rep.post Kp.refl rfl
theorem rd_or {A B : M Bool} {Q} (h : tT g W (mOrT A B) σ H Q) : tOr (tT g W A) (tT g W B) σ H Q := by
  obtain ⟨Z, env, rE, h⟩ := h
  refine ⟨Z, env, rE, (Out.ct.bind h).mono fun c H1 ⟨Z1, env1, a, p1, k1, l1, c1⟩ => ?_⟩
  have ec : a = c := l1
  subst ec
  cases a with
  | false => rw [if_neg Bool.false_ne_true]; exact ⟨Z1, env1, p1.rep, c1⟩
  | true => rw [if_pos rfl]; exact c1 _ H1 Z1 p1.rep.post Kp.refl rfl
theorem rd_if {C : M Bool} {A B : M Vw} {Q} (h : tE g W (mIf C A B) σ H Q) : tIf (tT g W C) (tE g W A) (tE g W B) σ H Q := by
  obtain ⟨Z, env, rE, h⟩ := h
  refine ⟨Z, env, rE, (Out.ct.bind h).mono fun c H1 ⟨Z1, env1, a, p1, k1, l1, c1⟩ => ?_⟩
  have ec : a = c := l1
  subst ec
  cases a with
  | true => rw [if_pos rfl]; exact ⟨Z1, env1, p1.rep, c1⟩
  | false => rw [if_neg Bool.false_ne_true]; exact ⟨Z1, env1, p1.rep, c1⟩
section
variable {a b c : Expr} {rest : List Expr} {A B : M Bool} {P Q : M Vw} {pos : Pos}
theorem xtnot (ha : XT X W a A) : XT X W (.UnaryOp .Not a pos) (mNotT A) := (pt_not ha).weak fun _ _ _ => rd_not (g := X.g)
theorem xwand1 (ha : XT X W a A) : XW X W (.BoolOp .And [a] pos) A := pw_and1 ha
theorem xwor1 (ha : XT X W a A) : XW X W (.BoolOp .Or [a] pos) A := pw_or1 ha
theorem xwand (ha : XT X W a A) (hb : XW X W (.BoolOp .And (b :: rest) pos) B) : XW X W (.BoolOp .And (a :: b :: rest) pos) (mAndT A B) := (pw_and ha hb).weak fun _ _ _ => rd_and (g := X.g)
theorem xwor (ha : XT X W a A) (hb : XW X W (.BoolOp .Or (b :: rest) pos) B) : XW X W (.BoolOp .Or (a :: b :: rest) pos) (mOrT A B) := (pw_or ha hb).weak fun _ _ _ => rd_or (g := X.g)
theorem xwt {e : Expr} (h : XW X W e A) : XT X W e A := h.pt
theorem xif (hc : XT X W c A) (ha : XE X W a P) (hb : XE X W b Q) : XE X W (.IfExp c a b pos) (mIf A P Q) := (pe_ifExp hc ha hb).weak fun _ _ _ => rd_if (g := X.g)
end

/-- and, or as values: all but the last a truth value -/
def mAndV (A B : M Vw) : M Vw := A.bind fun a => (lk a).bind fun s => match s with
  | .bool true => B
  | .bool false => fun e => .ok (.v (.bool false)) e
  | _ => fun _ => .no
def mOrV (A B : M Vw) : M Vw := A.bind fun a => (lk a).bind fun s => match s with
  | .bool false => B
  | .bool true => fun e => .ok (.v (.bool true)) e
  | _ => fun _ => .no
def mNotV (A : M Vw) : M Vw := mUn (fun s => match s with | .bool b => some (.v (.bool (!b))) | _ => none) A
theorem rd_andV {A B : M Vw} {Q} (h : tE g W (mAndV A B) σ H Q) : tAndV (tE g W A) (tE g W B) σ H Q := by
  obtain ⟨Z, env, rE, h⟩ := h
  refine ⟨Z, env, rE, (Out.ct.bind h).mono fun x H1 ⟨Z1, env1, a, p1, k1, l1, c1⟩ => ?_⟩
  cases ea : look a env1 with
  | none => rw [lk_none ea] at c1; exact c1.elim
  | some s =>
    rw [lk_some ea] at c1
    have q := l1.look p1.rep ea
    cases s with
    | bool b =>
      cases q
      refine ⟨b, rfl, ?_⟩
      cases b with
      | true => rw [if_pos rfl]; exact ⟨Z1, env1, p1.rep, c1⟩
      | false => rw [if_neg Bool.false_ne_true]; exact c1 _ H1 Z1 p1.rep.post Kp.refl (.bl false)
    | _ => exact c1.elim
theorem rd_orV {A B : M Vw} {Q} (h : tE g W (mOrV A B) σ H Q) : tOrV (tE g W A) (tE g W B) σ H Q := by
  obtain ⟨Z, env, rE, h⟩ := h
  refine ⟨Z, env, rE, (Out.ct.bind h).mono fun x H1 ⟨Z1, env1, a, p1, k1, l1, c1⟩ => ?_⟩
  cases ea : look a env1 with
  | none => rw [lk_none ea] at c1; exact c1.elim
  | some s =>
    rw [lk_some ea] at c1
    have q := l1.look p1.rep ea
    cases s with
    | bool b =>
      cases q
      refine ⟨b, rfl, ?_⟩
      cases b with
      | false => rw [if_neg Bool.false_ne_true]; exact ⟨Z1, env1, p1.rep, c1⟩
      | true => rw [if_pos rfl]; exact c1 _ H1 Z1 p1.rep.post Kp.refl (.bl true)
    | _ => exact c1.elim
section
variable {a b : Expr} {rest : List Expr} {A B : M Vw} {pos : Pos} {op : BoolOp}
theorem xone (h : XE X W a A) : XE X W (.BoolOp op [a] pos) A := pe_one h
theorem xand (ha : XE X W a A) (hb : XE X W (.BoolOp .And (b :: rest) pos) B) : XE X W (.BoolOp .And (a :: b :: rest) pos) (mAndV A B) := (pe_and ha hb).weak fun _ _ _ => rd_andV (g := X.g)
theorem xor (ha : XE X W a A) (hb : XE X W (.BoolOp .Or (b :: rest) pos) B) : XE X W (.BoolOp .Or (a :: b :: rest) pos) (mOrV A B) := (pe_or ha hb).weak fun _ _ _ => rd_orV (g := X.g)
theorem xnot (ha : XE X W a A) : XE X W (.UnaryOp .Not a pos) (mNotV A) := (pe_not ha).weak fun σ H Q h => by
  obtain ⟨Z, env, rE, h⟩ := h
  refine ⟨Z, env, rE, (Out.ct.bind h).mono fun x H1 ⟨Z1, env1, a, p1, k1, l1, c1⟩ => ?_⟩
  cases ea : look a env1 with
  | none => rw [lk_none ea] at c1; exact c1.elim
  | some s =>
    rw [lk_some ea] at c1
    have q := l1.look p1.rep ea
    cases s with
    | bool b => cases q; exact ⟨b, rfl, c1 _ H1 Z1 p1.rep.post Kp.refl (.bl _)⟩
    | _ => exact c1.elim
end
/-- a < b < c -/
def mChain (f f' : T → T → Option Vw) (A B C : M Vw) : M Vw := A.bind fun a => B.bind fun b => (lk a).bind fun s => (lk b).bind fun t => (opt (f s t)).bind fun w => (lk w).bind fun u => match u with
  | .bool true => C.bind fun c => (lk b).bind fun t' => (lk c).bind fun v => opt (f' t' v)
  | .bool false => fun e => .ok (.v (.bool false)) e
  | _ => fun _ => .no
end
end Ev
end P_Ev1

section P_Ev2
set_option Elab.async false
set_option linter.all false
set_option maxRecDepth 100000
/-! Ev2: what the operators and built-ins do on data, and that the rules say so. -/
namespace Ev
open PySem L2 PySem.Spec
open PyProof.Rows hiding St
set_option autoImplicit false

/-! ### as the library's data -/
mutual
def T.pyO : T → Option PyData
  | .none => some .none
  | .bool b => some (.bool b)
  | .int i => some (.int i)
  | .str x => some (.str x)
  | .list ts => (T.pyOs ts).map .list
  | .tuple ts => (T.pyOs ts).map .tuple
  | .dict _ => Option.none
  | .ro _ => Option.none
  | .fn _ => Option.none
def T.pyOs : List T → Option (List PyData)
  | [] => some []
  | t :: ts => (T.pyO t).bind fun d => (T.pyOs ts).map fun ds => d :: ds
end
section
variable {K : PySem.W.Frag} {H : Hp}
mutual
theorem Rp.dp : ∀ (t : T) (v : V) (d : PyData), Rp K H v t → T.pyO t = some d → Dp K H v d
  | .none, _, _, h, e => by cases h; cases e; exact .non
  | .bool b, _, _, h, e => by cases h; cases e; exact .bl b
  | .int i, _, _, h, e => by cases h; cases e; exact .int i
  | .str x, _, _, h, e => by cases h; cases e; exact .str x
  | .list ts, _, _, h, e => by
    cases h with
    | lst a r =>
      unfold T.pyO at e
      cases q : T.pyOs ts with
      | none => rw [q] at e; cases e
      | some ds => rw [q] at e; cases e; exact .lst (.of a) (RpL.dp ts _ ds r q)
  | .tuple ts, _, _, h, e => by
    cases h with
    | tup a r =>
      unfold T.pyO at e
      cases q : T.pyOs ts with
      | none => rw [q] at e; cases e
      | some ds => rw [q] at e; cases e; exact .tup a (RpL.dp ts _ ds r q)
  | .dict _, _, _, _, e => by unfold T.pyO at e; cases e
  | .ro _, _, _, _, e => by unfold T.pyO at e; cases e
  | .fn _, _, _, _, e => by unfold T.pyO at e; cases e
theorem RpL.dp : ∀ (ts : List T) (vs : List V) (ds : List PyData), RpL K H vs ts → T.pyOs ts = some ds → DpAll K H vs ds
  | [], _, _, h, e => by cases h; cases e; exact .nil
  | t :: ts, _, _, h, e => by
    cases h with
    | cons h1 h2 =>
      unfold T.pyOs at e
      cases q : T.pyO t with
      | none => rw [q] at e; cases e
      | some d =>
        rw [q] at e
        cases q2 : T.pyOs ts with
        | none => rw [q2] at e; cases e
        | some ds => rw [q2] at e; cases e; exact .cons (Rp.dp t _ d h1 q) (RpL.dp ts _ ds h2 q2)
end
end

/-! ### arithmetic -/
def addF : T → T → Option Vw
  | .int i, .int j => some (.v (.int (i + j)))
  | .str a, .str b => if a.length + b.length ≤ sizeLine then some (.v (.str (a ++ b))) else none
  | .tuple a, .tuple b => if a.length + b.length ≤ sizeLine then some (.v (.tuple (a ++ b))) else none
  | .list a, .list b => if a.length + b.length ≤ sizeLine then some (.fr (.lst (a ++ b))) else none
  | _, _ => none
def subF : T → T → Option Vw
  | .int i, .int j => some (.v (.int (i - j)))
  | _, _ => none
def MulOk (i j : Int) : Prop := (Builtin.Int.intBits i : Int) + (Builtin.Int.intBits j : Int) ≤ 134217728
instance (i j : Int) : Decidable (MulOk i j) := by unfold MulOk; exact inferInstance
def mulF : T → T → Option Vw
  | .int i, .int j => if MulOk i j then some (.v (.int (i * j))) else none
  | .list a, .int k => if -(2 ^ 63) ≤ k ∧ k < 2 ^ 63 ∧ a.length * k.toNat ≤ sizeLine then some (.fr (.lst (List.replicate k.toNat a).flatten)) else none
  | _, _ => none
def fdivF : T → T → Option Vw
  | .int i, .int j => if j ≠ 0 ∧ j.natAbs.log2 < 9000 then some (.v (.int (i.fdiv j))) else none
  | _, _ => none
def modF : T → T → Option Vw
  | .int i, .int j => if j ≠ 0 then some (.v (.int (i.fmod j))) else none
  | _, _ => none
def powF : T → T → Option Vw
  | .int i, .int j => if 0 ≤ j ∧ j ≤ 1000000 ∧ i.natAbs < 2 ^ 64 then some (.v (.int (i ^ j.toNat))) else none
  | _, _ => none
def negF : T → Option Vw
  | .int i => some (.v (.int (-i)))
  | _ => none
def ltF : T → T → Option Vw
  | .int i, .int j => some (.v (.bool (decide (i < j))))
  | _, _ => none
def leF : T → T → Option Vw
  | .int i, .int j => some (.v (.bool (decide (i ≤ j))))
  | _, _ => none
def gtF : T → T → Option Vw
  | .int i, .int j => some (.v (.bool (decide (j < i))))
  | _, _ => none
def geF : T → T → Option Vw
  | .int i, .int j => some (.v (.bool (decide (j ≤ i))))
  | _, _ => none
def eqT (s t : T) : Option Bool := match T.pyO s, T.pyO t with
  | some d, some e => if SeqAt.shaped d = true ∧ SeqAt.shaped e = true then some (PyData.eqv d e) else Option.none
  | _, _ => Option.none
def eqF (s t : T) : Option Vw := (eqT s t).map fun b => .v (.bool b)
def neF (s t : T) : Option Vw := (eqT s t).map fun b => .v (.bool (!b))
/-- is None -/
def isNF (s : T) : Bool := match s with | .none => true | _ => false
def isF : T → T → Option Vw
  | s, .none => some (.v (.bool (isNF s)))
  | _, _ => none
def isnF : T → T → Option Vw
  | s, .none => some (.v (.bool (!isNF s)))
  | _, _ => none

section
variable {X : Cx} {K : KB}
theorem op_fdivX : OpR X (binaryOp .FloorDiv) (rI (fun _ j => j ≠ 0 ∧ j.natAbs.log2 < 9000) fun i j => .int (i.fdiv j)) := opI fun _ _ _ _ _ _ _ hc q => floordiv_int hc.1 q (.inl (PyProof.noPylong_of_log2 hc.2))
abbrev rAdd (K : PySem.W.Frag) : R2 := fun x y H Q => rI0 (fun i j => .int (i + j)) x y H Q ∨ (∃ i j, x = .str i ∧ y = .str j ∧ i.length + j.length ≤ sizeLine ∧ Q (.str (i ++ j)) H) ∨ rCatA K x y H Q ∨ rCat x y H Q
theorem op_addA : OpR X (binaryOp .Add) (rAdd X.K) := op_add.or (op_add_str.or (op_catA.or op_cat))
/-- a new tuple of what is seen -/
theorem New.tup {G H : Hp} {p : Addr} {xs : List V} {ts : List T} (hp : H p = none) (h : RpL K G xs ts) : New K G H (upd H p (.tup xs)) (.v (.tuple ts)) (.ref p) := by
  have sm : Same H (upd H p (.tup xs)) := fun b o e => by rw [upd_ne (ne_of_none e hp)]; exact e
  exact ⟨sm, fun G' e n => .tup (.of (n p _ hp upd_same)) (h.mono e)⟩
theorem New.lst {G H : Hp} {p : Addr} {xs : List V} {ts : List T} (hp : H p = none) (h : RpL K G xs ts) : New K G H (upd H p (.lst xs)) (.fr (.lst ts)) (.ref p) := by
  have sm : Same H (upd H p (.lst xs)) := fun b o e => by rw [upd_ne (ne_of_none e hp)]; exact e
  exact ⟨sm, p, rfl, hp, _, upd_same, h⟩
/-- a value that is seen already -/
theorem New.old {G H : Hp} {z : V} {t : T} (h : Rp K G z t) : New K G H H (.v t) z := ⟨fun _ _ e => e, fun G' e _ => h.mono e⟩
theorem RpL.nil_iff {H : Hp} {vs : List V} {ts : List T} (h : RpL K H vs ts) : vs = [] ↔ ts = [] := by
  cases h <;> simp

theorem s_add : OpS K (rAdd K) addF := by
  intro G H x y s t w Q sm hx hy e k
  cases hx with
  | int i =>
    cases hy with
    | int j => injection e with e; subst e; exact .inl ⟨i, j, rfl, rfl, k _ _ (.sc fun _ => .int _)⟩
    | _ => cases e
  | str i =>
    cases hy with
    | str j =>
      simp only [addF] at e
      split at e
      · rename_i hz; injection e with e; subst e; exact .inr (.inl ⟨i, j, rfl, rfl, hz, k _ _ (.sc fun _ => .str _)⟩)
      · cases e
    | _ => cases e
  | @tup a xs ds ha hr =>
    cases hy with
    | @tup b ys es hb hs =>
      simp only [addF] at e
      split at e
      · rename_i hz; injection e with e; subst e
        refine .inr (.inr (.inl ⟨a, b, xs, ys, rfl, rfl, sqT_mono sm ha, sqT_mono sm hb, by rw [hr.length, hs.length]; exact hz, fun n => ?_, fun n1 n2 => ?_, fun n1 n2 p hp => k _ _ (New.tup hp (hr.append hs))⟩))
        · subst n; cases hr
          exact k _ _ (.old (.tup hb hs))
        · subst n2; cases hs
          rw [List.append_nil] at k
          exact k _ _ (.old (.tup ha hr))
      · cases e
    | _ => cases e
  | @lst a xs ds ha hr =>
    cases hy with
    | @lst b ys es hb hs =>
      simp only [addF] at e
      split at e
      · rename_i hz; injection e with e; subst e
        exact .inr (.inr (.inr ⟨a, b, xs, ys, rfl, rfl, ha, hb, by rw [hr.length, hs.length]; exact hz, fun p hp => k _ _ (New.lst hp (hr.append hs))⟩))
      · cases e
    | _ => cases e
  | _ => cases e
theorem s_int {C : Int → Int → Prop} {v : Int → Int → V} {f : T → T → Option Vw} (hi : ∀ i j w, f (.int i) (.int j) = some w → C i j ∧ ∀ (K : KB) G H, New K G H H w (v i j)) (ho : ∀ s t w, f s t = some w → ∃ i j, s = .int i ∧ t = .int j) : OpS K (rI C v) f := by
  intro G H x y s t w Q sm hx hy e k
  obtain ⟨i, j, rfl, rfl⟩ := ho s t w e
  cases hx; cases hy
  obtain ⟨h1, h2⟩ := hi i j w e
  exact ⟨i, j, rfl, rfl, h1, k _ _ (h2 _ _ _)⟩
theorem s_int0 {v : Int → Int → V} {f : T → T → Option Vw} (hi : ∀ i j w, f (.int i) (.int j) = some w → ∀ (K : KB) G H, New K G H H w (v i j)) (ho : ∀ s t w, f s t = some w → ∃ i j, s = .int i ∧ t = .int j) : OpS K (rI0 v) f := by
  intro G H x y s t w Q sm hx hy e k
  obtain ⟨i, j, rfl, rfl⟩ := ho s t w e
  cases hx; cases hy
  exact ⟨i, j, rfl, rfl, k _ _ (hi i j w e _ _ _)⟩
theorem s_sub : OpS K (rI0 fun i j => .int (i - j)) subF := s_int0 (fun i j w e => by injection e with e; subst e; exact fun _ _ _ => .sc fun _ => .int _) fun s t w e => by cases s <;> cases t <;> first | exact ⟨_, _, rfl, rfl⟩ | cases e
theorem s_lt : OpS K (rI0 fun i j => .bl (decide (i < j))) ltF := s_int0 (fun i j w e => by injection e with e; subst e; exact fun _ _ _ => .sc fun _ => .bl _) fun s t w e => by cases s <;> cases t <;> first | exact ⟨_, _, rfl, rfl⟩ | cases e
theorem s_le : OpS K (rI0 fun i j => .bl (decide (i ≤ j))) leF := s_int0 (fun i j w e => by injection e with e; subst e; exact fun _ _ _ => .sc fun _ => .bl _) fun s t w e => by cases s <;> cases t <;> first | exact ⟨_, _, rfl, rfl⟩ | cases e
theorem s_gt : OpS K (rI0 fun i j => .bl (decide (j < i))) gtF := s_int0 (fun i j w e => by injection e with e; subst e; exact fun _ _ _ => .sc fun _ => .bl _) fun s t w e => by cases s <;> cases t <;> first | exact ⟨_, _, rfl, rfl⟩ | cases e
theorem s_ge : OpS K (rI0 fun i j => .bl (decide (j ≤ i))) geF := s_int0 (fun i j w e => by injection e with e; subst e; exact fun _ _ _ => .sc fun _ => .bl _) fun s t w e => by cases s <;> cases t <;> first | exact ⟨_, _, rfl, rfl⟩ | cases e
theorem s_fdiv : OpS K (rI (fun _ j => j ≠ 0 ∧ j.natAbs.log2 < 9000) fun i j => .int (i.fdiv j)) fdivF := s_int (fun i j w e => by
  simp only [fdivF] at e; split at e
  · rename_i h; injection e with e; subst e; exact ⟨h, fun _ _ _ => .sc fun _ => .int _⟩
  · cases e) fun s t w e => by cases s <;> cases t <;> first | exact ⟨_, _, rfl, rfl⟩ | cases e
theorem s_mod : OpS K (rI (fun _ j => j ≠ 0) fun i j => .int (i.fmod j)) modF := s_int (fun i j w e => by
  simp only [modF] at e; split at e
  · rename_i h; injection e with e; subst e; exact ⟨h, fun _ _ _ => .sc fun _ => .int _⟩
  · cases e) fun s t w e => by cases s <;> cases t <;> first | exact ⟨_, _, rfl, rfl⟩ | cases e
theorem s_pow : OpS K (rI CPow fun i j => .int (i ^ j.toNat)) powF := s_int (fun i j w e => by
  simp only [powF] at e; split at e
  · rename_i h; injection e with e; subst e; exact ⟨h, fun _ _ _ => .sc fun _ => .int _⟩
  · cases e) fun s t w e => by cases s <;> cases t <;> first | exact ⟨_, _, rfl, rfl⟩ | cases e
abbrev rMul : R2 := fun x y H Q => rI CMulX (fun i j => .int (i * j)) x y H Q ∨ rRep x y H Q
theorem op_mulA : OpR X (binaryOp .Mult) rMul := op_mulX.or op_rep
theorem rep_flat {G : Hp} {vs : List V} {ts : List T} (h : RpL K G vs ts) : ∀ n : Nat, RpL K G (List.replicate n vs).flatten (List.replicate n ts).flatten
  | 0 => .nil
  | n + 1 => by rw [List.replicate_succ, List.replicate_succ, List.flatten_cons, List.flatten_cons]; exact h.append (rep_flat h n)
theorem s_mul : OpS K rMul mulF := by
  intro G H x y s t w Q sm hx hy e k
  cases hx with
  | int i =>
    cases hy with
    | int j =>
      simp only [mulF] at e
      split at e
      · rename_i hz; injection e with e; subst e; exact .inl ⟨i, j, rfl, rfl, hz, k _ _ (.sc fun _ => .int _)⟩
      · cases e
    | _ => cases e
  | @lst a xs ds ha hr =>
    cases hy with
    | int j =>
      simp only [mulF] at e
      split at e
      · rename_i hz; injection e with e; subst e
        exact .inr ⟨a, j, xs, rfl, rfl, ha, hz.1, hz.2.1, by rw [hr.length]; exact hz.2.2, fun p hp => k _ _ (New.lst hp (rep_flat hr _))⟩
      · cases e
    | _ => cases e
  | _ => cases e
theorem s_neg : UnS K (rU fun i => .int (-i)) negF := by
  intro G H x s w Q sm hx e k
  cases hx <;> first | (injection e with e; subst e; exact ⟨_, rfl, k _ _ (.sc fun _ => .int _)⟩) | cases e
theorem eqT_some {s t : T} {b : Bool} (h : eqT s t = some b) : ∃ d e, T.pyO s = some d ∧ T.pyO t = some e ∧ SeqAt.shaped d = true ∧ SeqAt.shaped e = true ∧ b = PyData.eqv d e := by
  unfold eqT at h
  cases e1 : T.pyO s with
  | none => rw [e1] at h; cases h
  | some d =>
    cases e2 : T.pyO t with
    | none => rw [e1, e2] at h; cases h
    | some e =>
      rw [e1, e2] at h
      simp only at h
      split at h
      · rename_i hs; injection h with h; exact ⟨d, e, rfl, rfl, hs.1, hs.2, h.symm⟩
      · cases h
theorem s_eq : OpS K (rEqD K) eqF := by
  intro G H x y s t w Q sm hx hy e k
  unfold eqF at e
  cases q : eqT s t with
  | none => rw [q] at e; cases e
  | some b =>
    rw [q] at e; cases e
    obtain ⟨d, e, h1, h2, h3, h4, rfl⟩ := eqT_some q
    exact ⟨d, e, (hx.rp sm).dp _ _ _ h1, (hy.rp sm).dp _ _ _ h2, h3, h4, k _ _ (.sc fun _ => .bl _)⟩
theorem s_ne : OpS K (rNeD K) neF := by
  intro G H x y s t w Q sm hx hy e k
  unfold neF at e
  cases q : eqT s t with
  | none => rw [q] at e; cases e
  | some b =>
    rw [q] at e; cases e
    obtain ⟨d, e, h1, h2, h3, h4, rfl⟩ := eqT_some q
    exact ⟨d, e, (hx.rp sm).dp _ _ _ h1, (hy.rp sm).dp _ _ _ h2, h3, h4, k _ _ (.sc fun _ => .bl _)⟩
theorem isNF_iff {G H : Hp} {x : V} {s : T} (h : Rp1 K G H x s) : decide (x = V.non) = isNF s := by cases h <;> simp [isNF]
theorem s_is : OpS K (fun x y H Q => y = .non ∧ Q (.bl (decide (x = .non))) H) isF := by
  intro G H x y s t w Q sm hx hy e k
  cases hy with
  | non =>
    have e' : some (Vw.v (.bool (isNF s))) = some w := e
    injection e' with e'; subst e'
    refine ⟨rfl, ?_⟩
    rw [isNF_iff hx]
    exact k _ _ (.sc fun _ => .bl _)
  | _ => cases e
theorem s_isn : OpS K (fun x y H Q => y = .non ∧ Q (.bl (!decide (x = .non))) H) isnF := by
  intro G H x y s t w Q sm hx hy e k
  cases hy with
  | non =>
    have e' : some (Vw.v (.bool (!isNF s))) = some w := e
    injection e' with e'; subst e'
    refine ⟨rfl, ?_⟩
    rw [isNF_iff hx]
    exact k _ _ (.sc fun _ => .bl _)
  | _ => cases e
end
end Ev
end P_Ev2

section P_Ev3
set_option Elab.async false
set_option linter.all false
set_option maxRecDepth 100000
/-! Ev3: displays, subscripts, slices, chains, built-in calls. -/
namespace Ev
open PySem L2 PySem.Spec
open PyProof.Rows hiding St
set_option autoImplicit false

/-! ### letting go -/
section
variable {K : KB} {Z Z1 : SetA} {env env1 env2 : Sls} {σ : St} {H0 H H1 : Hp} {r : Vw} {x : V} {t : T}
theorem so_set {i : Nat} {s : Sl} {p : Addr} (hs : ∀ o, s ≠ .own o) (h : SO (env.set i s) σ p) : SO env σ p := by
  obtain ⟨j, o, h1, h2⟩ := h
  by_cases e : i = j
  · subst e
    rw [List.getElem?_set] at h1
    simp only [if_pos] at h1
    split at h1
    · injection h1 with h1; exact (hs o h1).elim
    · cases h1
  · rw [List.getElem?_set_ne e] at h1
    exact ⟨j, o, h1, h2⟩
/-- a slot's object becomes plain data -/
theorem freeze {i : Nat} {o : Ob} (rE : RepEnv K Z env σ H) (h : env[i]? = some (.own o)) :
    Post K Z env σ H Z (env.set i (.v o.data)) σ H ∧ Kp env (env.set i (.v o.data)) ∧ ∃ a, σ[i]? = some (some (.ref a)) ∧ Rp K (hid Z (env.set i (.v o.data)) σ H) (.ref a) o.data := by
  obtain ⟨a, h1, h2, h3⟩ := rE.own i o h
  have sub : ∀ p, SO (env.set i (.v o.data)) σ p → SO env σ p := fun p hp => so_set (fun o e => by cases e) hp
  have hi : i < env.length := (List.getElem?_eq_some_iff.mp h).1
  have nso : ¬ SO (env.set i (.v o.data)) σ a := by
    rintro ⟨j, o', e1, e2⟩
    by_cases e : i = j
    · subst e
      rw [List.getElem?_set_self hi] at e1
      cases e1
    · rw [List.getElem?_set_ne e] at e1
      exact e (rE.inj i j o o' a h e1 h1 e2)
  have sm : Same (hid Z env σ H) (hid Z (env.set i (.v o.data)) σ H) := fun p u e => by
    obtain ⟨e1, e2, e3⟩ := hid_some.mp e
    exact hid_some.mpr ⟨e1, fun z => e2 (sub p z), e3⟩
  have hr : Rp K (hid Z (env.set i (.v o.data)) σ H) (.ref a) o.data := h3.rp sm fun u e => hid_some.mpr ⟨h2, nso, e⟩
  refine ⟨⟨⟨by rw [List.length_set]; exact rE.len, fun j u e => ?_, fun j u e => ?_, fun j k u w b e1 e2 e3 e4 => ?_, rE.zd⟩, fun _ _ e _ => e, fun _ o e => ⟨o, e⟩, fun p e => .inl (sub p e), fun _ e => e, fun _ e => .inl e⟩, fun j f => ?_, a, h1, hr⟩
  · by_cases ej : i = j
    · subst ej
      rw [List.getElem?_set_self hi] at e
      injection e with e; injection e with e; subst e
      exact ⟨_, h1, hr⟩
    · rw [List.getElem?_set_ne ej] at e
      obtain ⟨y, q1, q2⟩ := rE.v j u e
      exact ⟨y, q1, q2.mono sm⟩
  · by_cases ej : i = j
    · subst ej
      rw [List.getElem?_set_self hi] at e
      cases e
    · rw [List.getElem?_set_ne ej] at e
      obtain ⟨b, q1, q2, q3⟩ := rE.own j u e
      exact ⟨b, q1, q2, q3.mono sm fun _ e => e⟩
  · have n1 : i ≠ j := fun z => by subst z; rw [List.getElem?_set_self hi] at e1; cases e1
    have n2 : i ≠ k := fun z => by subst z; rw [List.getElem?_set_self hi] at e2; cases e2
    rw [List.getElem?_set_ne n1] at e1
    rw [List.getElem?_set_ne n2] at e2
    exact rE.inj j k u w b e1 e2 e3 e4
  · by_cases ej : i = j
    · subst ej
      exact .inr ⟨_, List.getElem?_set_self hi⟩
    · unfold Full
      rw [List.getElem?_set_ne ej]
      exact f
/-- seen, whatever was hidden meanwhile -/
def Sees (K : KB) (H0 : Hp) (Z1 : SetA) (env : Sls) (σ : St) (H : Hp) (x : V) (t : T) : Prop :=
  ∀ Z : SetA, (∀ p, Z p → Z1 p) → (∀ p, Z p → ∃ o, H0 p = some o) → Rp K (hid Z env σ H) x t
theorem toT_ok (rE : RepEnv K Z1 env σ H) (h : RR K Z1 env σ H0 H r x) (e : toT r env = .ok t env2) : Post K Z1 env σ H Z1 env2 σ H ∧ Kp env env2 ∧ Sees K H0 Z1 env2 σ H x t := by
  cases r with
  | v u =>
    simp only [toT] at e
    injection e with e1 e2; subst e1; subst e2
    exact ⟨rE.post, Kp.refl, fun Z hz _ => Rp.mono (hid_lessZ hz) h⟩
  | fr o =>
    simp only [toT] at e
    injection e with e1 e2; subst e1; subst e2
    obtain ⟨a, rfl, h1, h2, h3⟩ := h
    refine ⟨rE.post, Kp.refl, fun Z hz hd => h3.rp (hid_lessZ hz) fun u e => hid_some.mpr ⟨fun q => ?_, rE.z_so h2, e⟩⟩
    obtain ⟨o, q⟩ := hd a q
    rw [h1] at q; cases q
  | sl i =>
    obtain ⟨h1, h2 | h2⟩ := h
    · obtain ⟨o, h2⟩ := h2
      simp only [toT, h2] at e
      injection e with e1 e2; subst e1; subst e2
      obtain ⟨p, k, a, h3, h4⟩ := freeze rE h2
      rw [h1] at h3; injection h3 with h3; injection h3 with h3; subst h3
      exact ⟨p, k, fun Z hz _ => h4.mono (hid_lessZ hz)⟩
    · obtain ⟨u, h2⟩ := h2
      simp only [toT, h2] at e
      injection e with e1 e2; subst e1; subst e2
      obtain ⟨y, h3, h4⟩ := rE.v i u h2
      rw [h1] at h3; injection h3 with h3; injection h3 with h3; subst h3
      exact ⟨rE.post, Kp.refl, fun Z hz _ => h4.mono (hid_lessZ hz)⟩
theorem Sees.step (h : Sees K H0 Z1 env σ H x t) (p : Post K Z1 env σ H Z1 env1 σ H1) : Sees K H0 Z1 env1 σ H1 x t := fun Z hz hd => by
  refine (h Z hz hd).mono fun q o e => ?_
  obtain ⟨e1, e2, e3⟩ := hid_some.mp e
  refine hid_some.mpr ⟨e1, fun z => (p.so q z).elim e2 fun n => ?_, p.fr q o e3 e2⟩
  rw [e3] at n; cases n
/-- letting go: no exception -/
theorem toT_er {y : Exc} : toT r env ≠ .er y env2 := by
  intro e
  cases r with
  | v u => cases e
  | fr o => cases e
  | sl i =>
    simp only [toT] at e
    split at e <;> cases e
theorem toTs_ok : ∀ {rs : List Vw} {xs : List V} {ts : List T} {env env2 : Sls}, RepEnv K Z1 env σ H → RRs K Z1 env σ H0 H rs xs → toTs rs env = .ok ts env2 →
    Post K Z1 env σ H Z1 env2 σ H ∧ Kp env env2 ∧ ∀ Z : SetA, (∀ p, Z p → Z1 p) → (∀ p, Z p → ∃ o, H0 p = some o) → RpL K (hid Z env2 σ H) xs ts
  | [], _, _, _, _, rE, h, e => by
    cases h
    injection e with e1 e2; subst e1; subst e2
    exact ⟨rE.post, Kp.refl, fun _ _ _ => .nil⟩
  | r :: rs, _, _, env, _, rE, h, e => by
    cases h with
    | cons h1 h2 h3 =>
      simp only [toTs, M.bind] at e
      cases q1 : toT r env with
      | er y e' => exact (toT_er q1).elim
      | no => rw [q1] at e; cases e
      | ok t env1 =>
        rw [q1] at e
        simp only [R.bind, M.bind] at e
        obtain ⟨p1, k1, s1⟩ := toT_ok rE h1 q1
        cases q2 : toTs rs env1 with
        | er y e' => rw [q2] at e; cases e
        | no => rw [q2] at e; cases e
        | ok ts env3 =>
          rw [q2] at e
          injection e with e1 e2; subst e1; subst e2
          obtain ⟨p2, k2, s2⟩ := toTs_ok p1.rep (h2.step rE p1 k1) q2
          exact ⟨p1.trans p2, k1.trans k2, fun Z hz hd => .cons (s1.step p2 Z hz hd) (s2 Z hz hd)⟩
theorem toTs_er {y : Exc} : ∀ {rs : List Vw} {env env2 : Sls}, toTs rs env ≠ .er y env2
  | [], _, _, e => by cases e
  | r :: rs, env, _, e => by
    simp only [toTs, M.bind] at e
    cases q1 : toT r env with
    | er y e' => exact (toT_er q1).elim
    | no => rw [q1] at e; cases e
    | ok t env1 =>
      rw [q1] at e
      simp only [R.bind, M.bind] at e
      cases q2 : toTs rs env1 with
      | er y e' => exact (toTs_er q2).elim
      | no => rw [q2] at e; cases e
      | ok ts env3 => rw [q2] at e; cases e
end

/-! ### argument lists and displays -/
section
variable {g : Gk} {W : WB} {σ : St} {Z : SetA} {env : Sls} {H : Hp} {X : Cx}
theorem xnil : XA X W [] mNil := pa_nil.weak fun σ H Q ⟨Z, env, rE, h⟩ => h [] H Z rE.post Kp.refl .nil
/-- what came later is newer -/
theorem nofr_of {K : KB} {Z : SetA} {env : Sls} {σ : St} {H1 H2 : Hp} {a : Addr} (ha : ∃ u, H1 a = some u) : ∀ {rs : List Vw} {xs : List V}, RRs K Z env σ H1 H2 rs xs → NoFr a rs xs
  | _, _, .nil, k, o, e, _ => by simp at e
  | _, _, .cons h r n, 0, o, e, f => by
    simp at e f
    subst e; subst f
    obtain ⟨b, e, h1, _⟩ := h
    injection e with e; subst e
    obtain ⟨u, q⟩ := ha
    rw [h1] at q; cases q
  | _, _, .cons h r n, k + 1, o, e, f => nofr_of ha r k o (by simpa using e) (by simpa using f)
/-- told from the start all the same -/
def From {α β : Type} (g : Gk) (W : WB) (L : Rel α β) (σ : St) (Q : β → Hp → Prop) (Z : SetA) (env : Sls) (H : Hp) (Z1 : SetA) (env1 : Sls) (H1 : Hp) (r : R α) : Prop :=
  Post (kb g W) Z env σ H Z1 env1 σ H1 ∧ Kp env env1 ∧ Out g W L σ Q Z env H r
theorem From.ct {α β : Type} {L : Rel α β} {Q : β → Hp → Prop} : Ct g W σ (From g W L σ Q Z env H) where
  er := fun h cls d H' p rx => h.2.2 cls d H' (h.1.trans p).lessZ (rx.mono (hid_lessZ h.1.zs))
  no := fun h => h.2.2
  step := fun p k h => ⟨h.1.trans p, h.2.1.trans k, h.2.2⟩
theorem xcons {e : Expr} {es : List Expr} {A : M Vw} {B : M (List Vw)} (ha : XE X W e A) (hb : XA X W es B) (hs : starEach (e :: es) X.env = (false, eval e X.env) :: starEach es X.env := by rfl) : XA X W (e :: es) (mCons A B) :=
  (pa_cons ha hb hs).weak fun σ H Q ⟨Z, env, rE, h⟩ =>
    ⟨Z, env, rE, (From.ct.bind (Z := Z) (env := env) (H := H) (C := From X.g W (LA (kb X.g W) σ) σ Q Z env H) ⟨rE.post, Kp.refl, h⟩).mono fun x H1 ⟨Z1, env1, a, p1, k1, l1, c1⟩ =>
      ⟨Z1, env1, p1.rep, (From.ct.bind c1).mono fun xs H2 ⟨Z2, env2, b, p2, k2, l2, c2⟩ =>
        c2.2.2 (x :: xs) H2 Z2 (p1.trans p2) (k1.trans k2) (.cons (l1.step p1.rep p2 k2) (l2.start fun p => p1.none) (fun o a e1 e2 => nofr_of (by subst e1; subst e2; obtain ⟨b, e, _, _, h3⟩ := l1; injection e with e; subst e; exact h3.dom) l2))⟩⟩
def mTup (A : M (List Vw)) : M Vw := A.bind fun rs => (toTs rs).bind fun ts => if ts.length ≤ sizeLine then (fun e => .ok (.v (.tuple ts)) e) else fun _ => .no
def mLst (A : M (List Vw)) : M Vw := A.bind fun rs => (toTs rs).bind fun ts => if ts.length ≤ sizeLine then (fun e => .ok (.fr (.lst ts)) e) else fun _ => .no
/-- the arguments are let go, then something is made -/
theorem Ct.plain {γ : Type} {C : SetA → Sls → Hp → R γ → Prop} (c : Ct g W σ C) {Z1 : SetA} {env1 : Sls} {H1 : Hp} {rs : List Vw} {xs : List V} {k : List T → M γ} (rE : RepEnv (kb g W) Z env σ H) (p1 : Post (kb g W) Z env σ H Z1 env1 σ H1) (k1 : Kp env env1)
    (l1 : RRs (kb g W) Z1 env1 σ H H1 rs xs) (h : C Z env H ((toTs rs).bind k env1)) : ∃ ts env2, RepEnv (kb g W) Z env2 σ H1 ∧ Post (kb g W) Z env σ H Z env2 σ H1 ∧ Kp env env2 ∧ RpL g.K (hid Z env2 σ H1) xs ts ∧ C Z env2 H1 (k ts env2) := by
  cases q : toTs rs env1 with
  | er y e => exact (toTs_er q).elim
  | no => simp only [M.bind, q, R.bind] at h; exact (c.no h).elim
  | ok ts env2 =>
    simp only [M.bind, q, R.bind] at h
    obtain ⟨p2, k2, s2⟩ := toTs_ok p1.rep l1 q
    have p3 : Post (kb g W) Z env σ H Z env2 σ H1 := (p1.trans p2).lessZ
    exact ⟨ts, env2, p3.rep, p3, k1.trans k2, s2 Z p1.zs rE.zd, c.step p3 (k1.trans k2) h⟩
/-- a part, then the rest, told from the start -/
theorem Out.bind0 {α β γ δ : Type} {L : Rel α β} {L' : Rel γ δ} [Back L'] {Q : δ → Hp → Prop} {m : R α} {k : α → M γ} (rE : RepEnv (kb g W) Z env σ H) (h : Out g W L' σ Q Z env H (m.bind k)) :
    Out g W L σ (fun x H1 => ∃ Z1 env1 r, Post (kb g W) Z env σ H Z1 env1 σ H1 ∧ Kp env env1 ∧ L Z1 env1 H H1 r x ∧ Out g W L' σ Q Z env H (k r env1)) Z env H m :=
  (From.ct.bind (C := From g W L' σ Q Z env H) ⟨rE.post, Kp.refl, h⟩).mono fun x H1 ⟨Z1, env1, r, p1, k1, l1, c1⟩ => ⟨Z1, env1, r, p1, k1, l1, c1.2.2⟩
theorem xtup {es : List Expr} {A : M (List Vw)} {x1 pos} (h : XA X W es A) : XE X W (.Tuple es x1 pos) (mTup A) :=
  (pe_tup h).weak fun σ H Q ⟨Z, env, rE, h⟩ => ⟨Z, env, rE, (Out.bind0 rE h).mono fun xs H1 ⟨Z1, env1, rs, p1, k1, l1, c1⟩ => by
    obtain ⟨ts, env2, r2, p2, k2, q2, c2⟩ := Out.ct.plain rE p1 k1 l1 c1
    split at c2
    · rename_i hz
      exact ⟨by rw [q2.length]; exact hz, fun p hp => Out.made c2 r2 (New.tup hp q2)⟩
    · exact c2.elim⟩
theorem xlst {es : List Expr} {A : M (List Vw)} {pos} (h : XA X W es A) : XE X W (.List es pos) (mLst A) :=
  (pe_lst h).weak fun σ H Q ⟨Z, env, rE, h⟩ => ⟨Z, env, rE, (Out.bind0 rE h).mono fun xs H1 ⟨Z1, env1, rs, p1, k1, l1, c1⟩ => by
    obtain ⟨ts, env2, r2, p2, k2, q2, c2⟩ := Out.ct.plain rE p1 k1 l1 c1
    split at c2
    · rename_i hz
      exact ⟨by rw [q2.length]; exact hz, fun p hp => Out.made c2 r2 (New.lst hp q2)⟩
    · exact c2.elim⟩

/-! ### chains -/
theorem Out.look {β : Type} {L : Rel β V} {Q : V → Hp → Prop} {r : Vw} {k : T → M β} (h : Out g W L σ Q Z env H ((lk r).bind k env)) : ∃ t, Ev.look r env = some t ∧ Out g W L σ Q Z env H (k t env) := by
  cases e : Ev.look r env with
  | none => rw [lk_none e] at h; exact h.elim
  | some t => rw [lk_some e] at h; exact ⟨t, rfl, h⟩
/-- results that are truth values -/
def BlF (f : T → T → Option Vw) : Prop := ∀ s t w, f s t = some w → ∃ b, w = .v (.bool b)
theorem rd_chain {r r' : R2} {f f' : T → T → Option Vw} (hs : OpS (kb g W) r f) (hs' : OpS (kb g W) r' f') (hb : BlF f) {A B C : M Vw} {Q : VK} (h : tE g W (mChain f f' A B C) σ H Q) : tChain r r' (tE g W A) (tE g W B) (tE g W C) σ H Q := by
  obtain ⟨Z, env, rE, h⟩ := h
  refine ⟨Z, env, rE, (Out.ct.bind h).mono fun x H1 ⟨Z1, env1, a, p1, k1, l1, c1⟩ => ?_⟩
  refine ⟨Z1, env1, p1.rep, (Out.ct.bind c1).mono fun y H2 ⟨Z2, env2, b, p2, k2, l2, c2⟩ => ?_⟩
  have l1' := l1.step p1.rep p2 k2
  obtain ⟨s, es, c3⟩ := Out.look c2
  obtain ⟨t, et, c4⟩ := Out.look c3
  simp only [M.bind, opt] at c4
  cases ef : f s t with
  | none => rw [ef] at c4; exact c4.elim
  | some w =>
    rw [ef] at c4
    obtain ⟨k, rfl⟩ := hb s t w ef
    simp only [R.bind, lk, Ev.look, M.bind] at c4
    refine hs hid_le (l1'.look1 p2.rep es) (l2.look1 p2.rep et) ef fun z H3 n => ?_
    obtain ⟨sm, hz⟩ := n
    have hz1 : z = V.bl k := by
      have := hz H3 (fun p o e => sm _ _ (hid_le _ _ e)) fun p o _ e => e
      cases this; rfl
    subst hz1
    have p3 : Post (kb g W) Z2 env2 σ H2 Z2 env2 σ H3 := by
      have s1 : Same (hid Z2 env2 σ H2) (hid Z2 env2 σ H3) := fun p o e => by
        obtain ⟨h1, h2, h3⟩ := hid_some.mp e
        exact hid_some.mpr ⟨h1, h2, sm _ _ h3⟩
      have rE2 := p2.rep
      refine ⟨⟨rE2.len, fun i t e => ?_, fun i o e => ?_, rE2.inj, fun p hz => ?_⟩, fun p o e _ => sm p o e, fun p o e => ⟨o, sm p o e⟩, fun _ e => .inl e, fun _ e => e, fun _ e => .inl e⟩
      · obtain ⟨x, h1, h2⟩ := rE2.v i t e; exact ⟨x, h1, h2.mono s1⟩
      · obtain ⟨a, h1, h2, h3⟩ := rE2.own i o e; exact ⟨a, h1, h2, h3.mono s1 fun u e => sm a u e⟩
      · obtain ⟨o, e⟩ := rE2.zd p hz; exact ⟨o, sm p o e⟩
    refine ⟨k, rfl, ?_⟩
    cases k with
    | false =>
      rw [if_neg Bool.false_ne_true]
      exact c4 _ H3 Z2 p3 Kp.refl (.bl false)
    | true =>
      rw [if_pos rfl]
      refine ⟨Z2, env2, p3.rep, (Out.ct.bind (Out.ct.step p3 Kp.refl c4)).mono fun y' H4 ⟨Z4, env4, c, p4, k4, l4, c5⟩ => ?_⟩
      have l2' := (l2.step p2.rep p3 Kp.refl).step p3.rep p4 k4
      obtain ⟨t', et', c6⟩ := Out.look (show Out g W (LE (kb g W) σ) σ Q Z4 env4 H4 ((lk b).bind _ env4) from c5)
      obtain ⟨v, ev, c7⟩ := Out.look c6
      unfold opt at c7
      cases ef' : f' t' v with
      | none => rw [ef'] at c7; exact c7.elim
      | some w' =>
        rw [ef'] at c7
        exact hs' hid_le (l2'.look1 p4.rep et') (l4.look1 p4.rep ev) ef' fun z H' n => Out.made c7 p4.rep n
section
variable {a b c : Expr} {A B C : M Vw} {pos : Pos} {op op' : CmpOp} {r r' : R2} {f f' : T → T → Option Vw}
theorem xchain (ho : OpR X (compareOp op) r) (hs : OpS (kb X.g W) r f) (hbl : BlF f) (ho' : OpR X (compareOp op') r') (hs' : OpS (kb X.g W) r' f') (ha : XE X W a A) (hb : XE X W b B) (hc : XE X W c C)
    (hm : lastMarks [op, op'] [b, c] = false := by with_unfolding_all rfl) : XE X W (.Compare a [op, op'] [b, c] pos) (mChain f f' A B C) := (pe_chain ho ho' ha hb hc hm).weak fun _ _ _ => rd_chain (g := X.g) hs hs' hbl
theorem xtchain (ho : OpR X (compareOp op) r) (hs : OpS (kb X.g W) r f) (hbl : BlF f) (ho' : OpR X (compareOp op') r') (hs' : OpS (kb X.g W) r' f') (ha : XE X W a A) (hb : XE X W b B) (hc : XE X W c C)
    (hm : lastMarks [op, op'] [b, c] = false := by with_unfolding_all rfl) : XT X W (.Compare a [op, op'] [b, c] pos) (mTest (mChain f f' A B C)) := (pt_chain ho ho' ha hb hc hm).weak fun _ _ _ => rd_test (g := X.g) fun _ _ _ => rd_chain (g := X.g) hs hs' hbl
end
theorem b_lt : BlF ltF := fun s t w e => by cases s <;> cases t <;> first | (injection e with e; exact ⟨_, e.symm⟩) | cases e
theorem b_le : BlF leF := fun s t w e => by cases s <;> cases t <;> first | (injection e with e; exact ⟨_, e.symm⟩) | cases e
theorem b_gt : BlF gtF := fun s t w e => by cases s <;> cases t <;> first | (injection e with e; exact ⟨_, e.symm⟩) | cases e
theorem b_ge : BlF geF := fun s t w e => by cases s <;> cases t <;> first | (injection e with e; exact ⟨_, e.symm⟩) | cases e
theorem b_eq : BlF eqF := fun s t w e => by unfold eqF at e; cases q : eqT s t <;> rw [q] at e <;> cases e; exact ⟨_, rfl⟩
theorem b_ne : BlF neF := fun s t w e => by unfold neF at e; cases q : eqT s t <;> rw [q] at e <;> cases e; exact ⟨_, rfl⟩

/-! ### built-in functions of values -/
theorem rd_lks : ∀ {rs : List Vw} {xs : List V} {ts : List T} {e' : Sls} {H0 : Hp}, RepEnv (kb g W) Z env σ H → RRs (kb g W) Z env σ H0 H rs xs → lks rs env = .ok ts e' → e' = env ∧ Rp1s g.K (hid Z env σ H) H xs ts
  | [], _, _, _, _, rE, h, e => by cases h; injection e with e1 e2; subst e1; exact ⟨e2.symm, .nil⟩
  | r :: rs, _, _, _, _, rE, h, e => by
    cases h with
    | cons h1 h2 h3 =>
      simp only [lks, lk, M.bind] at e
      cases q : Ev.look r env with
      | none => rw [q] at e; cases e
      | some t =>
        rw [q] at e
        simp only [R.bind, M.bind] at e
        cases q2 : lks rs env with
        | er y e' => rw [q2] at e; cases e
        | no => rw [q2] at e; cases e
        | ok ts env3 =>
          rw [q2] at e
          injection e with e1 e2; subst e1; subst e2
          obtain ⟨e3, r3⟩ := rd_lks rE h2 q2
          exact ⟨e3, .cons (h1.look1 rE q) r3⟩
theorem lks_er {y : Exc} {e' : Sls} : ∀ {rs : List Vw} {env : Sls}, lks rs env ≠ .er y e'
  | [], _, e => by cases e
  | r :: rs, env, e => by
    simp only [lks, lk, M.bind] at e
    cases q : Ev.look r env with
    | none => rw [q] at e; cases e
    | some t =>
      rw [q] at e
      simp only [R.bind, M.bind] at e
      cases q2 : lks rs env with
      | er y e' => exact lks_er q2
      | no => rw [q2] at e; cases e
      | ok ts env3 => rw [q2] at e; cases e
theorem rd_b {r : List V → Hp → VK → Prop} {f : List T → Option Vw} (hs : CaS (kb g W) r f) {A : M (List Vw)} {Q : VK} (h : tE g W (mB f A) σ H Q) : tCB r (tA g W A) σ H Q := by
  obtain ⟨Z, env, rE, h⟩ := h
  refine ⟨Z, env, rE, (Out.ct.bind h).mono fun xs H1 ⟨Z1, env1, rs, p1, k1, l1, c1⟩ => ?_⟩
  simp only [M.bind] at c1
  cases q : lks rs env1 with
  | er y e => exact (lks_er q).elim
  | no => rw [q] at c1; exact c1.elim
  | ok ts env2 =>
    rw [q] at c1
    simp only [R.bind, opt] at c1
    obtain ⟨e2, r2⟩ := rd_lks p1.rep l1 q
    subst e2
    cases ef : f ts with
    | none => rw [ef] at c1; exact c1.elim
    | some w =>
      rw [ef] at c1
      exact hs hid_le r2 ef fun z H' n => Out.made c1 p1.rep n
section
variable {x : PySem.Str} {p pos : Pos} {e : Expr} {es : List Expr} {A : M (List Vw)} {id T : String} {r : List V → Hp → VK → Prop} {f : List Ev.T → Option Vw}
theorem xb (hc : CallR X (.builtin id) r) (hs : CaS (kb X.g W) r f) (hg : Gl X x) (hm : X.mg x = none) (hv : bootBuiltins x = some (.builtin id)) (ha : XA X W (e :: es) A) (hn : x ≠ "__name__" := by decide) (hdb : (x == ("__debug__" : Str)) = false := by decide)
    (he : starEach (e :: es) X.env = (false, eval e X.env) :: starEach es X.env := by rfl) (hpl : (backTo pos (starEach es X.env)).any (·.1) = false := by rfl) : XE X W (.Call (.Name x p) (e :: es) [] pos) (mB f A) :=
  (pe_callB hc hg hm hv ha hn hdb he hpl).weak fun _ _ _ => rd_b (g := X.g) hs
theorem xty (hc : CallR X (.type T) r) (hs : CaS (kb X.g W) r f) (hg : Gl X x) (hm : X.mg x = none) (hv : bootBuiltins x = some (.type T)) (ha : XA X W (e :: es) A) (hn : x ≠ "__name__" := by decide) (hdb : (x == ("__debug__" : Str)) = false := by decide)
    (he : starEach (e :: es) X.env = (false, eval e X.env) :: starEach es X.env := by rfl) (hpl : (backTo pos (starEach es X.env)).any (·.1) = false := by rfl) : XE X W (.Call (.Name x p) (e :: es) [] pos) (mB f A) :=
  (pe_callTy hc hg hm hv ha hn hdb he hpl).weak fun _ _ _ => rd_b (g := X.g) hs
/-- a built-in function that a name of the module holds -/
theorem xbm (hc : CallR X (.builtin id) r) (hs : CaS (kb X.g W) r f) (hg : Gl X x) (hm : X.mg x = some (.builtin id)) (ha : XA X W (e :: es) A) (hdb : (x == ("__debug__" : Str)) = false := by decide)
    (he : starEach (e :: es) X.env = (false, eval e X.env) :: starEach es X.env := by rfl) (hpl : (backTo pos (starEach es X.env)).any (·.1) = false := by rfl) : XE X W (.Call (.Name x p) (e :: es) [] pos) (mB f A) :=
  (pe_callBfun hc hg hm ha hdb he hpl).weak fun _ _ _ => rd_b (g := X.g) hs
end
end
end Ev
end P_Ev3

section P_Ev4
set_option Elab.async false
set_option linter.all false
set_option maxRecDepth 100000
/-! Ev4: built-ins, subscripts, slices, dicts. -/
namespace Ev
open PySem L2 PySem.Spec
open PyProof.Rows hiding St
set_option autoImplicit false

section
variable {K : KB} {X : Cx}
theorem CallR.or {f : Value} {r r' : List V → Hp → VK → Prop} (h : CallR X f r) (h' : CallR X f r') : CallR X f (fun x H Q => r x H Q ∨ r' x H Q) := by
  intro pins s σ H xs us Q I rx q
  rcases q with q | q
  · exact h pins s σ H xs us Q I rx q
  · exact h' pins s σ H xs us Q I rx q
theorem Rp1s.one {K : PySem.W.Frag} {G H : Hp} {xs : List V} {t : T} (h : Rp1s K G H xs [t]) : ∃ x, xs = [x] ∧ Rp1 K G H x t := by
  cases h with
  | cons a b => cases b; exact ⟨_, rfl, a⟩
theorem Rp1s.two {K : PySem.W.Frag} {G H : Hp} {xs : List V} {t u : T} (h : Rp1s K G H xs [t, u]) : ∃ x y, xs = [x, y] ∧ Rp1 K G H x t ∧ Rp1 K G H y u := by
  cases h with
  | cons a b => cases b with | cons c d => cases d; exact ⟨_, _, rfl, a, c⟩

def lenF : List T → Option Vw
  | [.str x] => if x.length ≤ sizeLine then some (.v (.int x.length)) else none
  | [.list ts] => some (.v (.int ts.length))
  | [.tuple ts] => some (.v (.int ts.length))
  | [.ro ts] => some (.v (.int ts.length))
  | [.dict kvs] => some (.v (.int kvs.length))
  | _ => none
abbrev rLen (K : PySem.W.Frag) : List V → Hp → VK → Prop := fun xs H Q => (∃ x n, xs = [x] ∧ LenV K x H n ∧ Q (.int n) H) ∨ ∃ a kvs, xs = [V.ref a] ∧ Rd H a (.dK kvs) ∧ Q (.int kvs.length) H
theorem call_lenR : CallR X (.builtin "len") (fun xs H Q => ∃ a kvs, xs = [V.ref a] ∧ Rd H a (.dK kvs) ∧ Q (.int kvs.length) H) := by
  intro pins s σ H vs us Q I r h
  obtain ⟨a, kvs, rfl, hd, q⟩ := h
  rw [Vals.ref1 r]
  exact d_len I hd fun t s' I' => ⟨.int kvs.length, H, I', ⟨t, rfl⟩, q⟩
theorem call_lenA : CallR X (.builtin "len") (rLen X.K) := CallR.or call_len call_lenR
theorem RpKv.length {H : Hp} : ∀ {vs : List (Key × V)} {ts : List (T × T)}, RpKv K H vs ts → vs.length = ts.length
  | _, _, .nil => rfl
  | _, _, .cons _ r => by rw [List.length_cons, List.length_cons, RpKv.length r]
theorem s_len : CaS K (rLen K) lenF := by
  intro G H xs ts w Q sm hx e k
  unfold lenF at e
  split at e
  · obtain ⟨x, rfl, h⟩ := hx.one
    cases h
    split at e
    · rename_i hz; injection e with e; subst e; exact .inl ⟨_, _, rfl, ⟨hz, rfl⟩, k _ _ (.sc fun _ => .int _)⟩
    · cases e
  · obtain ⟨x, rfl, h⟩ := hx.one
    cases h with
    | lst a r => injection e with e; subst e; exact .inl ⟨_, _, rfl, .inl ⟨_, .of a, rfl⟩, k _ _ (by rw [r.length]; exact .sc fun _ => .int _)⟩
  · obtain ⟨x, rfl, h⟩ := hx.one
    cases h with
    | tup a r => injection e with e; subst e; exact .inl ⟨_, _, rfl, .inr ⟨_, sqT_mono sm a, rfl⟩, k _ _ (by rw [r.length]; exact .sc fun _ => .int _)⟩
  · obtain ⟨x, rfl, h⟩ := hx.one
    cases h with
    | ro a r => injection e with e; subst e; exact .inl ⟨_, _, rfl, .inl ⟨_, a, rfl⟩, k _ _ (by rw [r.length]; exact .sc fun _ => .int _)⟩
  · obtain ⟨x, rfl, h⟩ := hx.one
    cases h with
    | dct a r => injection e with e; subst e; exact .inr ⟨_, _, rfl, a, k _ _ (by rw [r.length]; exact .sc fun _ => .int _)⟩
  · cases e

def absF : List T → Option Vw
  | [.int i] => some (.v (.int (if i < 0 then -i else i)))
  | _ => none
theorem s_abs : CaS K (fun xs H Q => ∃ i, xs = [.int i] ∧ Q (.int (if i < 0 then -i else i)) H) absF := by
  intro G H xs ts w Q sm hx e k
  unfold absF at e
  split at e
  · obtain ⟨x, rfl, h⟩ := hx.one
    cases h; injection e with e; subst e; exact ⟨_, rfl, k _ _ (.sc fun _ => .int _)⟩
  · cases e
def intF : List T → Option Vw
  | [.int i] => some (.v (.int i))
  | [.bool b] => some (.v (.int (if b then 1 else 0)))
  | _ => none
theorem s_int1 : CaS K (fun xs H Q => (∃ i, xs = [.int i] ∧ Q (.int i) H) ∨ ∃ k, xs = [.bl k] ∧ Q (.int (if k then 1 else 0)) H) intF := by
  intro G H xs ts w Q sm hx e k
  unfold intF at e
  split at e
  · obtain ⟨x, rfl, h⟩ := hx.one
    cases h; injection e with e; subst e; exact .inl ⟨_, rfl, k _ _ (.sc fun _ => .int _)⟩
  · obtain ⟨x, rfl, h⟩ := hx.one
    cases h; injection e with e; subst e; exact .inr ⟨_, rfl, k _ _ (.sc fun _ => .int _)⟩
  · cases e
def gcdF : List T → Option Vw
  | [.int a, .int b] => some (.v (.int ((Nat.gcd a.natAbs b.natAbs : Nat) : Int)))
  | _ => none
theorem s_gcd : CaS K rGcd gcdF := by
  intro G H xs ts w Q sm hx e k
  unfold gcdF at e
  split at e
  · obtain ⟨x, y, rfl, h1, h2⟩ := hx.two
    cases h1; cases h2; injection e with e; subst e; exact ⟨_, _, rfl, k _ _ (.sc fun _ => .int _)⟩
  · cases e
def max2F : List T → Option Vw
  | [.int i, .int j] => some (.v (.int (if j > i then j else i)))
  | _ => none
def min2F : List T → Option Vw
  | [.int i, .int j] => some (.v (.int (if j < i then j else i)))
  | _ => none
theorem s_max2 : CaS K (fun xs H Q => ∃ i j, xs = [.int i, .int j] ∧ Q (.int (if j > i then j else i)) H) max2F := by
  intro G H xs ts w Q sm hx e k
  unfold max2F at e
  split at e
  · obtain ⟨x, y, rfl, h1, h2⟩ := hx.two
    cases h1; cases h2; injection e with e; subst e; exact ⟨_, _, rfl, k _ _ (.sc fun _ => .int _)⟩
  · cases e
theorem s_min2 : CaS K (fun xs H Q => ∃ i j, xs = [.int i, .int j] ∧ Q (.int (if j < i then j else i)) H) min2F := by
  intro G H xs ts w Q sm hx e k
  unfold min2F at e
  split at e
  · obtain ⟨x, y, rfl, h1, h2⟩ := hx.two
    cases h1; cases h2; injection e with e; subst e; exact ⟨_, _, rfl, k _ _ (.sc fun _ => .int _)⟩
  · cases e
def boolsOf : List T → Option (List Bool)
  | [] => some []
  | .bool b :: ts => (boolsOf ts).map fun bs => b :: bs
  | _ => none
theorem boolsOf_rp {G : Hp} : ∀ {ts : List T} {vs : List V} {bs : List Bool}, RpL K G vs ts → boolsOf ts = some bs → vs = bs.map V.bl
  | [], _, _, h, e => by cases h; injection e with e; subst e; rfl
  | t :: ts, _, _, h, e => by
    cases h with
    | cons a r =>
      cases a with
      | bl b =>
        unfold boolsOf at e
        cases q : boolsOf ts with
        | none => rw [q] at e; cases e
        | some cs => rw [q] at e; cases e; rw [boolsOf_rp r q]; rfl
      | _ => cases e
def allF : List T → Option Vw
  | [.list ts] => (boolsOf ts).map fun bs => .v (.bool (bs.all id))
  | _ => none
def anyF : List T → Option Vw
  | [.list ts] => (boolsOf ts).map fun bs => .v (.bool (bs.any id))
  | _ => none
theorem s_all : CaS K (rAll K) allF := by
  intro G H xs ts w Q sm hx e k
  unfold allF at e
  split at e
  · rename_i l
    obtain ⟨x, rfl, h⟩ := hx.one
    cases h with
    | lst a r =>
      cases q : boolsOf l with
      | none => rw [q] at e; cases e
      | some bs => rw [q] at e; cases e; exact ⟨_, bs, rfl, .of (by rw [← boolsOf_rp r q]; exact a), k _ _ (.sc fun _ => .bl _)⟩
  · cases e
theorem s_any : CaS K (rAny K) anyF := by
  intro G H xs ts w Q sm hx e k
  unfold anyF at e
  split at e
  · rename_i l
    obtain ⟨x, rfl, h⟩ := hx.one
    cases h with
    | lst a r =>
      cases q : boolsOf l with
      | none => rw [q] at e; cases e
      | some bs => rw [q] at e; cases e; exact ⟨_, bs, rfl, .of (by rw [← boolsOf_rp r q]; exact a), k _ _ (.sc fun _ => .bl _)⟩
  · cases e
def listF : List T → Option Vw
  | [.list ts] => some (.fr (.lst ts))
  | [.tuple ts] => some (.fr (.lst ts))
  | [.ro ts] => some (.fr (.lst ts))
  | _ => none
theorem s_list : CaS K (fun xs H Q => ∃ p ys, xs = [.ref p] ∧ (SqL K H p ys ∨ SqT K H p ys) ∧ ∀ l, H l = none → Q (.ref l) (upd H l (.lst ys))) listF := by
  intro G H xs ts w Q sm hx e k
  unfold listF at e
  split at e
  · obtain ⟨x, rfl, h⟩ := hx.one
    cases h with
    | lst a r => injection e with e; subst e; exact ⟨_, _, rfl, .inl (.of a), fun l hl => k _ _ (New.lst hl r)⟩
  · obtain ⟨x, rfl, h⟩ := hx.one
    cases h with
    | tup a r => injection e with e; subst e; exact ⟨_, _, rfl, .inr (sqT_mono sm a), fun l hl => k _ _ (New.lst hl r)⟩
  · obtain ⟨x, rfl, h⟩ := hx.one
    cases h with
    | ro a r => injection e with e; subst e; exact ⟨_, _, rfl, .inl a, fun l hl => k _ _ (New.lst hl r)⟩
  · cases e
def tupleF : List T → Option Vw
  | [.list ts] => some (.v (.tuple ts))
  | [.tuple ts] => some (.v (.tuple ts))
  | [.ro ts] => some (.v (.tuple ts))
  | _ => none
theorem s_tuple : CaS K (fun xs H Q => ∃ p ys, xs = [.ref p] ∧ ((SqL K H p ys ∧ ∀ l, H l = none → Q (.ref l) (upd H l (.tup ys))) ∨ (SqT K H p ys ∧ Q (.ref p) H))) tupleF := by
  intro G H xs ts w Q sm hx e k
  unfold tupleF at e
  split at e
  · obtain ⟨x, rfl, h⟩ := hx.one
    cases h with
    | lst a r => injection e with e; subst e; exact ⟨_, _, rfl, .inl ⟨.of a, fun l hl => k _ _ (New.tup hl r)⟩⟩
  · obtain ⟨x, rfl, h⟩ := hx.one
    cases h with
    | tup a r => injection e with e; subst e; exact ⟨_, _, rfl, .inr ⟨sqT_mono sm a, k _ _ (.old (.tup a r))⟩⟩
  · obtain ⟨x, rfl, h⟩ := hx.one
    cases h with
    | ro a r => injection e with e; subst e; exact ⟨_, _, rfl, .inl ⟨a, fun l hl => k _ _ (New.tup hl r)⟩⟩
  · cases e

/-! ### isinstance -/
inductive Ty where
  | int | bool | str | tuple | list | dict
def Ty.name : Ty → String
  | .int => "int" | .bool => "bool" | .str => "str" | .tuple => "tuple" | .list => "list" | .dict => "dict"
def isi : Ty → T → Option Bool
  | _, .fn _ => none
  | .int, .int _ => some true
  | .int, .bool _ => some true
  | .int, _ => some false
  | .bool, .bool _ => some true
  | .bool, _ => some false
  | .str, .str _ => some true
  | .str, _ => some false
  | .tuple, .tuple _ => some true
  | .tuple, _ => some false
  | .list, .list _ => some true
  | .list, .ro _ => some true
  | .list, _ => some false
  | .dict, .dict _ => some true
  | .dict, _ => some false
def tyN : T → Option String
  | .none => some "NoneType"
  | .bool _ => some "bool"
  | .int _ => some "int"
  | .str _ => some "str"
  | .list _ => some "list"
  | .ro _ => some "list"
  | .tuple _ => some "tuple"
  | .dict _ => some "dict"
  | .fn _ => none
theorem isi_ok (k : Ty) (t : T) (b : Bool) (h : isi k t = some b) : ∃ n, tyN t = some n ∧ kitB n k.name = some b := by
  cases t with
  | fn x => cases k <;> cases h
  | none => exact ⟨_, rfl, by cases k <;> cases h <;> decide +kernel⟩
  | bool _ => exact ⟨_, rfl, by cases k <;> cases h <;> decide +kernel⟩
  | int _ => exact ⟨_, rfl, by cases k <;> cases h <;> decide +kernel⟩
  | str _ => exact ⟨_, rfl, by cases k <;> cases h <;> decide +kernel⟩
  | list _ => exact ⟨_, rfl, by cases k <;> cases h <;> decide +kernel⟩
  | tuple _ => exact ⟨_, rfl, by cases k <;> cases h <;> decide +kernel⟩
  | dict _ => exact ⟨_, rfl, by cases k <;> cases h <;> decide +kernel⟩
  | ro _ => exact ⟨_, rfl, by cases k <;> cases h <;> decide +kernel⟩
theorem tyX_of {G H : Hp} {x : V} {t : T} {n : String} (sm : Same G H) (h : Rp1 K G H x t) (e : tyN t = some n) : TyX K H x (.type n) := by
  cases h with
  | non => cases e; exact .base .non
  | bl b => cases e; exact .base (.bl b)
  | int i => cases e; exact .base (.int i)
  | str x => cases e; exact .base (.str x)
  | lst a r => cases e; exact .base (.lst a)
  | ro a r =>
    cases e
    rcases a with (a | ⟨o, a⟩) | ⟨o, its, n, a1, a2, _⟩
    · exact .base (.lst a)
    · exact .base (.frz a)
    · exact .kList a1 a2
  | tup a r =>
    cases e
    rcases sqT_mono sm a with (a | ⟨o, a⟩) | ⟨o, its, n, a1, a2, _⟩
    · exact .base (.tup a)
    · exact .fTuple a
    · exact .kTuple a1 a2
  | dct a r =>
    cases e
    rcases a with a | ⟨o, a⟩
    · exact .base (.dK a)
    · exact .fDict a
def isiF (k : Ty) (t : T) : Option Vw := (isi k t).map fun b => .v (.bool b)
def mIsi (k : Ty) (A : M Vw) : M Vw := mUn (isiF k) A
/-- isinstance(e, T) -/
theorem xisi (W : WB) {k : Ty} {e : Expr} {tn : PySem.Str} {A : M Vw} {p p2 pos : Pos} (ha : XE X W e A) (hk : bootBuiltins tn = some (.type k.name)) (hg : Gl X "isinstance") (hm : X.mg "isinstance" = none) (hg2 : Gl X tn) (hm2 : X.mg tn = none)
    (hn : tn ≠ "__name__" := by decide) (hd : (tn == ("__debug__" : Str)) = false := by decide)
    (h1 : starEach [e, .Name tn p2] X.env = (false, eval e X.env) :: starEach [.Name tn p2] X.env := by rfl) (h2 : starEach [.Name tn p2] X.env = (false, eval (.Name tn p2) X.env) :: starEach [] X.env := by rfl)
    (hpl : (backTo pos (starEach [.Name tn p2] X.env)).any (·.1) = false := by rfl) : XE X W (.Call (.Name "isinstance" p) [e, .Name tn p2] [] pos) (mIsi k A) :=
  (pe_callB call_isi hg hm (by decide +kernel) (pa_cons ha (pa_cons (pe_bltn (v := .ty k.name) hg2 hm2 hk rfl hn hd) pa_nil h2) h1) (by decide) (by decide) h1 hpl).weak fun σ H Q ⟨Z, env, rE, h⟩ =>
    ⟨Z, env, rE, (Out.ct.bind h).mono fun x H1 ⟨Z1, env1, a, p1, k1, l1, c1⟩ => by
      obtain ⟨t, et, c2⟩ := Out.look c1
      unfold opt isiF at c2
      cases q : isi k t with
      | none => rw [q] at c2; exact c2.elim
      | some b =>
        rw [q] at c2
        obtain ⟨n, e1, e2⟩ := isi_ok k t b q
        exact ⟨x, .ty k.name, .type n, .type k.name, b, rfl, .ty _, tyX_of hid_le (l1.look1 p1.rep et) e1, kit_ty e2, Out.made c2 p1.rep (.sc fun _ => .bl b)⟩⟩

/-! ### subscripts -/
def ixF : T → T → Option Vw
  | .list ts, .int i => (atI ts i).map .v
  | .tuple ts, .int i => (atI ts i).map .v
  | .ro ts, .int i => (atI ts i).map .v
  | .str z, .int i => if z.length ≤ sizeLine then (atI z.cps.toList i).map fun c => .v (.str ⟨#[c]⟩) else none
  | _, _ => none
theorem RpL.atI {G : Hp} {vs : List V} {ts : List T} {i : Int} {t : T} (r : RpL K G vs ts) (h : L2.atI ts i = some t) : ∃ v, L2.atI vs i = some v ∧ Rp K G v t := by
  unfold L2.atI at h ⊢
  rw [r.length]
  cases e : ixN ts.length i with
  | none => rw [e] at h; cases h
  | some j =>
    rw [e] at h
    exact r.get h
theorem s_ix : OpS K (rIx K) ixF := by
  intro G H x y s t w Q sm hx hy e k
  cases hy with
  | int i =>
    cases hx with
    | @lst a xs ts ha r =>
      simp only [ixF] at e
      cases q : atI ts i with
      | none => rw [q] at e; cases e
      | some u => rw [q] at e; cases e; obtain ⟨v, h1, h2⟩ := r.atI q; exact .inl ⟨_, _, _, v, rfl, rfl, .of ha, h1, k _ _ (.old h2)⟩
    | @tup a xs ts ha r =>
      simp only [ixF] at e
      cases q : atI ts i with
      | none => rw [q] at e; cases e
      | some u => rw [q] at e; cases e; obtain ⟨v, h1, h2⟩ := r.atI q; exact .inr (.inl ⟨_, _, _, v, rfl, rfl, sqT_mono sm ha, h1, k _ _ (.old h2)⟩)
    | @ro a xs ts ha r =>
      simp only [ixF] at e
      cases q : atI ts i with
      | none => rw [q] at e; cases e
      | some u => rw [q] at e; cases e; obtain ⟨v, h1, h2⟩ := r.atI q; exact .inl ⟨_, _, _, v, rfl, rfl, ha, h1, k _ _ (.old h2)⟩
    | str z =>
      simp only [ixF] at e
      split at e
      · rename_i hz
        cases q : atI z.cps.toList i with
        | none => rw [q] at e; cases e
        | some c => rw [q] at e; cases e; exact .inr (.inr ⟨z, i, c, rfl, rfl, hz, q, k _ _ (.sc fun _ => .str _)⟩)
      · cases e
    | _ => cases e
  | _ => cases hx <;> cases e
theorem xix (W : WB) {a b : Expr} {A B : M Vw} {pos : Pos} (ha : XE X W a A) (hb : XE X W b B) (hs : PlainIx b) : XE X W (.Subscript a b pos) (mOp ixF A B) := (pe_ix ix_seq ha hb hs).weak fun _ _ _ => rd_op (g := X.g) s_ix

/-! ### slices -/
def mPo : Option (M Vw) → M (Option Int)
  | none => fun e => .ok none e
  | some A => A.bind fun a => (lk a).bind fun t e => match t with
    | .int i => .ok (some i) e
    | _ => .no
abbrev LO : Rel (Option Int) (Option Int) := fun _ _ _ _ b c => b = c
instance : Back LO := ⟨fun h _ => h⟩
def tO (g : Gk) (W : WB) (m : M (Option Int)) : TO := fun σ H Q => ∃ Z env, RepEnv (kb g W) Z env σ H ∧ Out g W LO σ Q Z env H (m env)
theorem xpnone (W : WB) : PO X none (tO X.g W (mPo none)) := ⟨fun pins s σ H Q I h => po_none.run pins s σ H Q I (by
  obtain ⟨Z, env, rE, h⟩ := h
  exact h none H Z rE.post Kp.refl rfl)⟩
theorem xpsome {W : WB} {e : Expr} {A : M Vw} (ha : XE X W e A) : PO X (some e) (tO X.g W (mPo (some A))) := ⟨fun pins s σ H Q I h => (po_some ha).run pins s σ H Q I (by
  obtain ⟨Z, env, rE, h⟩ := h
  refine ⟨Z, env, rE, (Out.ct.bind h).mono fun x H1 ⟨Z1, env1, a, p1, k1, l1, c1⟩ => ?_⟩
  cases ea : look a env1 with
  | none => rw [lk_none ea] at c1; exact c1.elim
  | some t =>
    rw [lk_some ea] at c1
    have q := l1.look p1.rep ea
    cases t with
    | int i => cases q; exact ⟨i, rfl, c1 (some i) H1 Z1 p1.rep.post Kp.refl rfl⟩
    | _ => exact c1.elim)⟩
def cutT (xs : List T) (lo hi : Option Int) : List T := (xs.drop (HT.sIx xs.length 0 lo)).take (HT.sIx xs.length xs.length hi - HT.sIx xs.length 0 lo)
def slF (t : T) (lo hi : Option Int) : Option Vw := match t with
  | .list ts => some (.fr (.lst (cutT ts lo hi)))
  | .ro ts => some (.fr (.lst (cutT ts lo hi)))
  | .tuple ts => some (.v (.tuple (cutT ts lo hi)))
  | .str z => if z.length ≤ sizeLine then some (.v (.str (cutS z lo hi))) else none
  | _ => none
def mSl (A : M Vw) (L U : M (Option Int)) : M Vw := A.bind fun a => L.bind fun lo => U.bind fun hi => (lk a).bind fun t => opt (slF t lo hi)
abbrev rSl (K : PySem.W.Frag) : V → Option Int → Option Int → Hp → VK → Prop := fun x lo hi H Q => rSlL K x lo hi H Q ∨ rSlA K x lo hi H Q ∨ rSlS x lo hi H Q
theorem sl_all : SlR X (rSl X.K) := sl_list.or (sl_tupA.or sl_str)
theorem RpL.cut {G : Hp} {vs : List V} {ts : List T} (r : RpL K G vs ts) (lo hi : Option Int) : RpL K G (cutV vs lo hi) (cutT ts lo hi) := by
  unfold cutV cutT
  rw [r.length]
  exact (r.drop _).take _
theorem cut_whole {ts : List T} {lo hi : Option Int} (h : HT.sIx ts.length 0 lo = 0 ∧ HT.sIx ts.length ts.length hi = ts.length) : cutT ts lo hi = ts := by
  unfold cutT
  rw [h.1, h.2, List.drop_zero, Nat.sub_zero, List.take_length]
theorem s_sl {G H : Hp} {x : V} {t : T} {lo hi : Option Int} {w : Vw} {Q : VK} (sm : Same G H) (hx : Rp1 K G H x t) (e : slF t lo hi = some w) (k : ∀ z H', New K G H H' w z → Q z H') : rSl K x lo hi H Q := by
  cases hx with
  | lst a r => injection e with e; subst e; exact .inl ⟨_, _, rfl, .of a, fun p hp => k _ _ (New.lst hp (r.cut lo hi))⟩
  | ro a r => injection e with e; subst e; exact .inl ⟨_, _, rfl, a, fun p hp => k _ _ (New.lst hp (r.cut lo hi))⟩
  | tup a r =>
    injection e with e; subst e
    refine .inr (.inl ⟨_, _, rfl, sqT_mono sm a, fun h => ?_, fun _ p hp => k _ _ (New.tup hp (r.cut lo hi))⟩)
    rw [r.length] at h
    rw [cut_whole h] at k
    exact k _ _ (.old (.tup a r))
  | str z =>
    simp only [slF] at e
    split at e
    · rename_i hz; injection e with e; subst e; exact .inr (.inr ⟨z, rfl, hz, k _ _ (.sc fun _ => .str _)⟩)
    · cases e
  | _ => cases e
theorem xsl {W : WB} {a : Expr} {lo hi : Option Expr} {A : M Vw} {L U : M (Option Int)} {p2 pos : Pos} (ha : XE X W a A) (hl : PO X lo (tO X.g W L)) (hu : PO X hi (tO X.g W U)) : XE X W (.Subscript a (.Slice lo hi none p2) pos) (mSl A L U) :=
  (pe_slice sl_all ha hl hu).weak fun σ H Q ⟨Z, env, rE, h⟩ => ⟨Z, env, rE, (Out.ct.bind h).mono fun x H1 ⟨Z1, env1, a, p1, k1, l1, c1⟩ =>
    ⟨Z1, env1, p1.rep, (Out.ct.bind c1).mono fun lo' H2 ⟨Z2, env2, b, p2, k2, l2, c2⟩ => ⟨Z2, env2, p2.rep, (Out.ct.bind c2).mono fun hi' H3 ⟨Z3, env3, c, p3, k3, l3, c3⟩ => by
      have e2 : b = lo' := l2
      have e3 : c = hi' := l3
      subst e2
      subst e3
      obtain ⟨t, et, c4⟩ := Out.look c3
      unfold opt at c4
      cases ef : slF t b c with
      | none => rw [ef] at c4; exact c4.elim
      | some w =>
        rw [ef] at c4
        exact s_sl hid_le (((l1.step p1.rep p2 k2).step p2.rep p3 k3).look1 p3.rep et) ef fun z H' n => Out.made c4 p3.rep n⟩⟩⟩

/-! ### dicts with ints and texts as keys -/
def toKey : T → Option Key
  | .int i => some (.inl i)
  | .str x => some (.inr x)
  | _ => none
theorem toKey_rp {G H : Hp} {x : V} {t : T} {k : Key} (h : Rp1 K G H x t) (e : toKey t = some k) : x = kV k := by
  cases h <;> first | (injection e with e; subst e; rfl) | cases e
theorem keyT_toKey (k : Key) : toKey (keyT k) = some k := by cases k <;> rfl
def findT (kvs : List (T × T)) (k : Key) : Option T := match kvs with
  | [] => none
  | (a, d) :: r => if toKey a = some k then some d else findT r k
theorem findT_rp {G : Hp} {k : Key} : ∀ {vs : List (Key × V)} {ts : List (T × T)}, RpKv K G vs ts → (findT ts k = none ∧ valV vs k = none) ∨ ∃ d v, findT ts k = some d ∧ valV vs k = some v ∧ Rp K G v d
  | _, _, .nil => .inl ⟨rfl, rfl⟩
  | _, _, .cons (k := k') (v := v) (d := d) h r => by
    by_cases e : k' = k
    · subst e
      exact .inr ⟨d, v, by simp [findT, keyT_toKey], by rw [valV_pos rfl], h⟩
    · rcases findT_rp (k := k) r with ⟨h1, h2⟩ | ⟨d', v', h1, h2, h3⟩
      · exact .inl ⟨by simp [findT, keyT_toKey, e, h1], by rw [valV_neg e]; exact h2⟩
      · exact .inr ⟨d', v', by simp [findT, keyT_toKey, e, h1], by rw [valV_neg e]; exact h2, h3⟩
def dgetF : T → T → Option Vw
  | .dict kvs, t => match toKey t with
    | some k => (findT kvs k).map .v
    | none => none
  | _, _ => none
abbrev rDg : R2 := fun x y H Q => ∃ a v, x = .ref a ∧ DGet H a y (some v) ∧ Q v H
theorem s_dget : OpS K rDg dgetF := by
  intro G H x y s t w Q sm hx hy e k
  cases hx with
  | @dct a vs ts ha r =>
    simp only [dgetF] at e
    split at e
    · rename_i kk hk
      rcases findT_rp (k := kk) r with ⟨h1, h2⟩ | ⟨d, v, h1, h2, h3⟩
      · rw [h1] at e; cases e
      · rw [h1] at e; cases e
        refine ⟨a, v, rfl, ?_, k _ _ (.old h3)⟩
        rw [toKey_rp hy hk, ← h2]
        exact .inl ⟨vs, kk, ha, rfl, rfl⟩
    · cases e
  | _ => cases e
theorem xdget {W : WB} {o i : Expr} {A B : M Vw} {pos : Pos} (hu : X.A.units + 1 < cLine) (ho : XE X W o A) (hi : XE X W i B) (hs : NoSl i) : XE X W (.Subscript o i pos) (mOp dgetF A B) := (pe_dget hu ho hi hs).weak fun _ _ _ => rd_op (g := X.g) s_dget
def dinF : T → T → Option Vw
  | t, .dict kvs => match toKey t with
    | some k => some (.v (.bool (findT kvs k).isSome))
    | none => none
  | _, _ => none
def dninF : T → T → Option Vw
  | t, .dict kvs => match toKey t with
    | some k => some (.v (.bool (!(findT kvs k).isSome)))
    | none => none
  | _, _ => none
theorem s_din : OpS K (fun y x H Q => ∃ a o, x = .ref a ∧ DGet H a y o ∧ Q (.bl o.isSome) H) dinF := by
  intro G H y x t s w Q sm hy hx e k
  cases hx with
  | @dct a vs ts ha r =>
    simp only [dinF] at e
    split at e
    · rename_i kk hk
      cases e
      refine ⟨a, valV vs kk, rfl, ?_, ?_⟩
      · rw [toKey_rp hy hk]; exact .inl ⟨vs, kk, ha, rfl, rfl⟩
      · have : (valV vs kk).isSome = (findT ts kk).isSome := by
          rcases findT_rp (k := kk) r with ⟨h1, h2⟩ | ⟨d, v, h1, h2, h3⟩ <;> rw [h1, h2] <;> rfl
        rw [this]
        exact k _ _ (.sc fun _ => .bl _)
    · cases e
  | _ => cases e
theorem s_dnin : OpS K (fun y x H Q => ∃ a o, x = .ref a ∧ DGet H a y o ∧ Q (.bl (!o.isSome)) H) dninF := by
  intro G H y x t s w Q sm hy hx e k
  cases hx with
  | @dct a vs ts ha r =>
    simp only [dninF] at e
    split at e
    · rename_i kk hk
      cases e
      refine ⟨a, valV vs kk, rfl, ?_, ?_⟩
      · rw [toKey_rp hy hk]; exact .inl ⟨vs, kk, ha, rfl, rfl⟩
      · have : (valV vs kk).isSome = (findT ts kk).isSome := by
          rcases findT_rp (k := kk) r with ⟨h1, h2⟩ | ⟨d, v, h1, h2, h3⟩ <;> rw [h1, h2] <;> rfl
        rw [this]
        exact k _ _ (.sc fun _ => .bl _)
    · cases e
  | _ => cases e
/-- {} -/
def mDnew : M Vw := fun e => .ok (.fr (.dct [])) e
theorem xdnew {W : WB} {pos : Pos} : XE X W (.Dict [] [] pos) mDnew := pe_dnewK.weak fun σ H Q ⟨Z, env, rE, h⟩ p hp => Out.made h rE
  ⟨fun b o e => by rw [upd_ne (ne_of_none e hp)]; exact e, p, rfl, hp, [], upd_same, .nil⟩
/-- {k: v, ..}: the keys written -/
def putKT (kvs : List (Key × T)) (k : Key) (t : T) : List (Key × T) :=
  if (kvs.any fun kv => decide (kv.1 = k)) = true then kvs.map (fun kv => if kv.1 = k then (kv.1, t) else kv) else kvs ++ [(k, t)]
def mergeT (kvs more : List (Key × T)) : List (Key × T) := more.foldl (fun acc kv => putKT acc kv.1 kv.2) kvs
theorem KvR.any {G : Hp} {p : Key → Bool} : ∀ {vs : List (Key × V)} {ts : List (Key × T)}, KvR K G vs ts → (vs.any fun kv => p kv.1) = ts.any fun kv => p kv.1
  | _, _, .nil => rfl
  | _, _, .cons h r => by rw [List.any_cons, List.any_cons, KvR.any r]
theorem KvR.map {G : Hp} {k : Key} {v : V} {t : T} (q : Rp K G v t) : ∀ {vs : List (Key × V)} {ts : List (Key × T)}, KvR K G vs ts → KvR K G (vs.map fun kv => if kv.1 = k then (kv.1, v) else kv) (ts.map fun kv => if kv.1 = k then (kv.1, t) else kv)
  | _, _, .nil => .nil
  | _, _, .cons (k := k') h r => by
    rw [List.map_cons, List.map_cons]
    by_cases e : k' = k
    · rw [if_pos e, if_pos e]; exact .cons q (KvR.map q r)
    · rw [if_neg e, if_neg e]; exact .cons h (KvR.map q r)
theorem KvR.append {G : Hp} : ∀ {vs ws : List (Key × V)} {ts us : List (Key × T)}, KvR K G vs ts → KvR K G ws us → KvR K G (vs ++ ws) (ts ++ us)
  | _, _, _, _, .nil, s => s
  | _, _, _, _, .cons h r, s => .cons h (KvR.append r s)
theorem KvR.put {G : Hp} {k : Key} {v : V} {t : T} (q : Rp K G v t) {vs : List (Key × V)} {ts : List (Key × T)} (h : KvR K G vs ts) : KvR K G (putK vs k v) (putKT ts k t) := by
  unfold putK putKT
  rw [KvR.any (p := fun a => decide (a = k)) h]
  split
  · exact h.map q
  · exact h.append (.cons q .nil)
theorem KvR.length {G : Hp} : ∀ {vs : List (Key × V)} {ts : List (Key × T)}, KvR K G vs ts → vs.length = ts.length
  | _, _, .nil => rfl
  | _, _, .cons _ r => by rw [List.length_cons, List.length_cons, KvR.length r]
end
end Ev
end P_Ev4

section P_Ev5
set_option Elab.async false
set_option linter.all false
set_option maxRecDepth 100000
/-! Ev5: statements. -/
namespace Ev
open PySem L2 PySem.Spec
open PyProof.Rows hiding St
set_option autoImplicit false

/-! ### slots stored -/
section
variable {K : KB} {Z Z1 : SetA} {env env1 env2 : Sls} {σ : St} {H0 H H1 : Hp} {r : Vw} {x : V} {t : T} {o : Ob} {a : Addr} {i : Nat}
theorem so_put {s : Sl} {y : V} {p : Addr} (h : SO (env.set i s) (σ.set i (some y)) p) : (∃ o, s = .own o ∧ y = .ref p) ∨ ∃ j o, j ≠ i ∧ env[j]? = some (.own o) ∧ σ[j]? = some (some (.ref p)) := by
  obtain ⟨j, o, h1, h2⟩ := h
  by_cases e : i = j
  · subst e
    have hi : i < env.length := by
      have := (List.getElem?_eq_some_iff.mp h1).1
      simpa using this
    have hj : i < σ.length := by
      have := (List.getElem?_eq_some_iff.mp h2).1
      simpa using this
    rw [List.getElem?_set_self hi] at h1
    rw [List.getElem?_set_self hj] at h2
    injection h1 with h1
    injection h2 with h2; injection h2 with h2
    exact .inl ⟨o, h1, h2⟩
  · rw [List.getElem?_set_ne e] at h1
    rw [List.getElem?_set_ne e] at h2
    exact .inr ⟨j, o, fun z => e z.symm, h1, h2⟩
theorem set_v (rE : RepEnv K Z env σ H) (hi : i < env.length) (hx : Rp K (hid Z env σ H) x t) : Post K Z env σ H Z (env.set i (.v t)) (σ.set i (some x)) H := by
  have hj : i < σ.length := by rw [← rE.len]; exact hi
  have sub : ∀ p, SO (env.set i (.v t)) (σ.set i (some x)) p → SO env σ p := fun p hp => by
    rcases so_put hp with ⟨o, e, _⟩ | ⟨j, o, _, h1, h2⟩
    · cases e
    · exact ⟨j, o, h1, h2⟩
  have sm : Same (hid Z env σ H) (hid Z (env.set i (.v t)) (σ.set i (some x)) H) := fun p u e => by
    obtain ⟨e1, e2, e3⟩ := hid_some.mp e
    exact hid_some.mpr ⟨e1, fun z => e2 (sub p z), e3⟩
  refine ⟨⟨by rw [List.length_set, List.length_set]; exact rE.len, fun j u e => ?_, fun j u e => ?_, fun j k u w b e1 e2 e3 e4 => ?_, rE.zd⟩, fun _ _ e _ => e, fun _ o e => ⟨o, e⟩, fun p e => .inl (sub p e), fun _ e => e, fun _ e => .inl e⟩
  · by_cases ej : i = j
    · subst ej
      rw [List.getElem?_set_self hi] at e
      injection e with e; injection e with e; subst e
      exact ⟨x, List.getElem?_set_self hj, hx.mono sm⟩
    · rw [List.getElem?_set_ne ej] at e
      rw [List.getElem?_set_ne ej]
      obtain ⟨y, q1, q2⟩ := rE.v j u e
      exact ⟨y, q1, q2.mono sm⟩
  · by_cases ej : i = j
    · subst ej
      rw [List.getElem?_set_self hi] at e
      cases e
    · rw [List.getElem?_set_ne ej] at e
      rw [List.getElem?_set_ne ej]
      obtain ⟨b, q1, q2, q3⟩ := rE.own j u e
      exact ⟨b, q1, q2, q3.mono sm fun _ e => e⟩
  · have n1 : i ≠ j := fun z => by subst z; rw [List.getElem?_set_self hi] at e1; cases e1
    have n2 : i ≠ k := fun z => by subst z; rw [List.getElem?_set_self hi] at e2; cases e2
    rw [List.getElem?_set_ne n1] at e1 e3
    rw [List.getElem?_set_ne n2] at e2 e4
    exact rE.inj j k u w b e1 e2 e3 e4
theorem set_own (rE : RepEnv K Z1 env σ H) (hz : ∀ p, Z p → Z1 p) (na : ¬ Z a) (ha : Z1 a) (hi : i < env.length) (hx : RepOb K (hid Z1 env σ H) H a o) :
    RepEnv K Z (env.set i (.own o)) (σ.set i (some (.ref a))) H ∧ ∀ p, SO (env.set i (.own o)) (σ.set i (some (.ref a))) p → SO env σ p ∨ p = a := by
  have hj : i < σ.length := by rw [← rE.len]; exact hi
  have nso := rE.z_so ha
  have sub : ∀ p, SO (env.set i (.own o)) (σ.set i (some (.ref a))) p → SO env σ p ∨ p = a := fun p hp => by
    rcases so_put hp with ⟨o, _, e⟩ | ⟨j, o, _, h1, h2⟩
    · injection e with e; exact .inr e.symm
    · exact .inl ⟨j, o, h1, h2⟩
  have sm : Same (hid Z1 env σ H) (hid Z (env.set i (.own o)) (σ.set i (some (.ref a))) H) := fun p u e => by
    obtain ⟨e1, e2, e3⟩ := hid_some.mp e
    refine hid_some.mpr ⟨fun z => e1 (hz p z), fun z => (sub p z).elim e2 fun z => ?_, e3⟩
    subst z; exact e1 ha
  refine ⟨⟨by rw [List.length_set, List.length_set]; exact rE.len, fun j u e => ?_, fun j u e => ?_, fun j k u w b e1 e2 e3 e4 => ?_, fun p h => rE.zd p (hz p h)⟩, sub⟩
  · by_cases ej : i = j
    · subst ej
      rw [List.getElem?_set_self hi] at e
      cases e
    · rw [List.getElem?_set_ne ej] at e
      rw [List.getElem?_set_ne ej]
      obtain ⟨y, q1, q2⟩ := rE.v j u e
      exact ⟨y, q1, q2.mono sm⟩
  · by_cases ej : i = j
    · subst ej
      rw [List.getElem?_set_self hi] at e
      injection e with e; injection e with e; subst e
      exact ⟨a, List.getElem?_set_self hj, na, hx.mono sm fun _ e => e⟩
    · rw [List.getElem?_set_ne ej] at e
      rw [List.getElem?_set_ne ej]
      obtain ⟨b, q1, q2, q3⟩ := rE.own j u e
      exact ⟨b, q1, fun z => q2 (hz b z), q3.mono sm fun _ e => e⟩
  · by_cases n1 : i = j
    · subst n1
      by_cases n2 : i = k
      · exact n2
      · rw [List.getElem?_set_self hj] at e3
        injection e3 with e3; injection e3 with e3; injection e3 with e3
        rw [List.getElem?_set_ne n2] at e2 e4
        subst e3
        exact (nso ⟨k, w, e2, e4⟩).elim
    · rw [List.getElem?_set_ne n1] at e1 e3
      by_cases n2 : i = k
      · subst n2
        rw [List.getElem?_set_self hj] at e4
        injection e4 with e4; injection e4 with e4; injection e4 with e4
        subst e4
        exact (nso ⟨j, u, e1, e3⟩).elim
      · rw [List.getElem?_set_ne n2] at e2 e4
        exact rE.inj j k u w b e1 e2 e3 e4
end
/-- a result into a slot -/
def put (i : Nat) (r : Vw) : M Unit := fun e => if i < e.length then (match r with
  | .v t => .ok () (e.set i (.v t))
  | .fr o => .ok () (e.set i (.own o))
  | .sl _ => (toT r e).bind fun t e' => .ok () (e'.set i (.v t))) else .no
theorem put_er {i : Nat} {r : Vw} {e e' : Sls} {y : Exc} : put i r e ≠ .er y e' := by
  unfold put
  split
  · intro h
    cases r with
    | v t => cases h
    | fr o => cases h
    | sl j =>
      simp only at h
      cases q : toT (.sl j) e with
      | er y e => exact toT_er q
      | no => rw [q] at h; cases h
      | ok t e2 => rw [q] at h; cases h
  · intro h; cases h
section
variable {K : KB} {Z Z1 : SetA} {env env1 env2 : Sls} {σ : St} {H H1 : Hp} {r : Vw} {x : V} {i : Nat}
theorem put_ok (p1 : Post K Z env σ H Z1 env1 σ H1) (zd : ∀ p, Z p → ∃ o, H p = some o) (l1 : RR K Z1 env1 σ H H1 r x) (e : put i r env1 = .ok () env2) : Post K Z env σ H Z env2 (σ.set i (some x)) H1 := by
  unfold put at e
  split at e
  · rename_i hi
    cases r with
    | v t =>
      injection e with _ e; subst e
      exact (p1.trans (set_v p1.rep hi l1)).lessZ
    | fr o =>
      injection e with _ e; subst e
      obtain ⟨a, rfl, h1, h2, h3⟩ := l1
      have na : ¬ Z a := fun z => by obtain ⟨u, q⟩ := zd a z; rw [h1] at q; cases q
      obtain ⟨r1, s1⟩ := set_own p1.rep p1.zs na h2 hi h3
      exact ⟨r1, p1.fr, p1.dom, fun p hp => (s1 p hp).elim (p1.so p) fun z => .inr (by subst z; exact h1), fun _ z => z, fun _ z => .inl z⟩
    | sl j =>
      simp only at e
      cases q : toT (.sl j) env1 with
      | er y e' => exact (toT_er q).elim
      | no => rw [q] at e; cases e
      | ok t e2 =>
        rw [q] at e
        injection e with _ e; subst e
        obtain ⟨p2, k2, s2⟩ := toT_ok p1.rep l1 q
        have p3 := (p1.trans p2).lessZ
        have hi' : i < e2.length := by rw [p2.rep.len, ← p1.rep.len]; exact hi
        exact p3.trans (set_v p3.rep hi' (s2 Z p1.zs zd))
  · cases e
end

/-! ### plain statements -/
def mSet (i : Nat) (A : M Vw) : MS := A.bind fun r => (put i r).bind fun _ e => .ok .nx e
def mDrop (A : M Vw) : MS := A.bind fun _ e => .ok .nx e
def mRet (A : M Vw) : MS := A.bind fun r e => .ok (.rt r) e
def mPass : MS := fun e => .ok .nx e
def mBreak : MS := fun e => .ok .bk e
def mCont : MS := fun e => .ok .ct e
def mIfS (C : M Bool) (A B : MS) : MS := C.bind fun c => if c then A else B
def mSeq (A B : MS) : MS := A.bind fun f => match f with
  | .nx => B
  | f => fun e => .ok f e
section
variable {g : Gk} {W : WB} {σ : St} {Z : SetA} {env : Sls} {H : Hp} {X : Cx} {D : Ends}
/-- an expression, then a statement's end, told from the start -/
def FromS (g : Gk) (W : WB) (D : Ends) (σ : St) (Z : SetA) (env : Sls) (H : Hp) (Z1 : SetA) (env1 : Sls) (H1 : Hp) (r : R Fl) : Prop :=
  Post (kb g W) Z env σ H Z1 env1 σ H1 ∧ OutS g W D σ Z env H r
theorem FromS.ct : Ct g W σ (FromS g W D σ Z env H) where
  er := fun h cls d H' p rx => h.2 cls d σ H' (h.1.trans p).lessZ (rx.mono (hid_lessZ h.1.zs))
  no := fun h => h.2
  step := fun p k h => ⟨h.1.trans p, h.2⟩
theorem OutS.bind0 {α β : Type} {L : Rel α β} {m : R α} {k : α → MS} (rE : RepEnv (kb g W) Z env σ H) (h : OutS g W D σ Z env H (m.bind k)) :
    Out g W L σ (fun x H1 => ∃ Z1 env1 r, Post (kb g W) Z env σ H Z1 env1 σ H1 ∧ L Z1 env1 H H1 r x ∧ OutS g W D σ Z env H (k r env1)) Z env H m :=
  (FromS.ct.bind (C := FromS g W D σ Z env H) ⟨rE.post, h⟩).mono fun x H1 ⟨Z1, env1, r, p1, k1, l1, c1⟩ => ⟨Z1, env1, r, p1, l1, c1.2⟩
theorem rd_set {i : Nat} {A : M Vw} (h : tS g W (mSet i A) D σ H) : tAsg (tE g W A) (gName i) D σ H := by
  obtain ⟨Z, env, rE, h⟩ := h
  refine ⟨Z, env, rE, (OutS.bind0 rE h).mono fun x H1 ⟨Z1, env1, r, p1, l1, c1⟩ => ?_⟩
  simp only [M.bind] at c1
  cases q : put i r env1 with
  | er y e => exact (put_er q).elim
  | no => rw [q] at c1; exact c1.elim
  | ok u e2 =>
    rw [q] at c1
    cases u
    exact c1 (σ.set i (some x)) H1 Z (put_ok p1 rE.zd l1 q)
theorem xset {W : WB} {i : Nat} {x : PySem.Str} {e : Expr} {A : M Vw} {pos pos' : Pos} (hN : X.N.Nodup) (hi : X.N[i]? = some x) (hx : Loc X.env.scope x) (he : XE X W e A) (hs : swapsWith e (some (.Name x pos')) pos.line X.env = pure false := by rfl)
    (hf : X.fn x = true ∨ X.env.scope.names.lookup x = some .local := by first | exact .inl rfl | exact .inr rfl | assumption) : XS X W (.Assign [.Name x pos'] e pos) (mSet i A) :=
  (ps_set hN hi hx he hs hf).weak fun D σ H h => rd_set (g := X.g) h
theorem xdrop {W : WB} {e : Expr} {A : M Vw} {pos : Pos} (he : XE X W e A) (hs : swapsWith e none pos.line X.env = pure false := by rfl) : XS X W (.Expr e pos) (mDrop A) :=
  (ps_expr he hs).weak fun D σ H ⟨Z, env, rE, h⟩ => ⟨Z, env, rE, (OutS.bind0 rE h).mono fun x H1 ⟨Z1, env1, r, p1, l1, c1⟩ => c1 σ H1 Z1 p1⟩
theorem xret {W : WB} {e : Expr} {A : M Vw} {pos : Pos} (he : XE X W e A) : XS X W (.Return (some e) pos) (mRet A) :=
  (ps_ret he).weak fun D σ H ⟨Z, env, rE, h⟩ => ⟨Z, env, rE, (OutS.bind0 rE h).mono fun x H1 ⟨Z1, env1, r, p1, l1, c1⟩ => c1 x σ H1 Z1 p1 l1⟩
theorem xretn {W : WB} {pos : Pos} : XS X W (.Return none pos) (mRet (mK .none)) :=
  ps_retN.weak fun D σ H ⟨Z, env, rE, h⟩ => h .non σ H Z rE.post .non
theorem xpass {W : WB} {pos : Pos} : XS X W (.Pass pos) mPass := ps_pass.weak fun D σ H ⟨Z, env, rE, h⟩ => h σ H Z rE.post
theorem xbreak {W : WB} {pos : Pos} : XS X W (.Break pos) mBreak := ps_break.weak fun D σ H ⟨Z, env, rE, h⟩ => h σ H Z rE.post
theorem xcont {W : WB} {pos : Pos} : XS X W (.Continue pos) mCont := ps_continue.weak fun D σ H ⟨Z, env, rE, h⟩ => h σ H Z rE.post
theorem xnever {W : WB} {st : Stmt} : XS X W st (fun _ => .no) := ps_never.weak fun D σ H ⟨Z, env, rE, h⟩ => h
theorem xifs {W : WB} {c : Expr} {a b : List Stmt} {C : M Bool} {A B : MS} {pos : Pos} (hc : XT X W c C) (ha : XSs X W a A) (hb : XSs X W b B) : XS X W (.If c a b pos) (mIfS C A B) :=
  (ps_if hc ha hb).weak fun D σ H ⟨Z, env, rE, h⟩ => ⟨Z, env, rE, (OutS.ct.bind h).mono fun c H1 ⟨Z1, env1, a, p1, k1, l1, c1⟩ => by
    have ec : a = c := l1
    subst ec
    cases a with
    | true => rw [if_pos rfl]; exact ⟨Z1, env1, p1.rep, c1⟩
    | false => rw [if_neg Bool.false_ne_true]; exact ⟨Z1, env1, p1.rep, c1⟩⟩
theorem xsnil {W : WB} : XSs X W [] mPass := pss_nil.weak fun D σ H ⟨Z, env, rE, h⟩ => h σ H Z rE.post
theorem xsone {W : WB} {st : Stmt} {A : MS} (h : XS X W st A) : XSs X W [st] A := pss_one h
/-- what follows a statement, told from a later point -/
theorem OutS.later {σ' : St} {Z' : SetA} {env' : Sls} {H' : Hp} (p : Post (kb g W) Z env σ H Z' env' σ' H') {r : R Fl} (h : OutS g W D σ Z env H r) : OutS g W D σ' Z' env' H' r := by
  cases r with
  | ok f e =>
    cases f with
    | nx => exact fun σ2 H2 Z2 p2 => h σ2 H2 Z2 (p.trans p2)
    | bk => exact fun σ2 H2 Z2 p2 => h σ2 H2 Z2 (p.trans p2)
    | ct => exact fun σ2 H2 Z2 p2 => h σ2 H2 Z2 (p.trans p2)
    | rt r => exact fun x σ2 H2 Z2 p2 l => h x σ2 H2 Z2 (p.trans p2) (l.start fun _ => p.none)
  | er x e => exact fun cls d σ2 H2 p2 rx => h cls d σ2 H2 (p.trans p2).lessZ (rx.mono (hid_lessZ p.zs))
  | no => exact h
theorem OutS.imp {D' : Ends} {r : R Fl} (h : OutS g W D σ Z env H r) (h1 : ∀ σ H, D.nx σ H → D'.nx σ H) (h2 : ∀ σ H, D.bk σ H → D'.bk σ H) (h3 : ∀ σ H, D.ct σ H → D'.ct σ H) (h4 : ∀ x H, D.rt x H → D'.rt x H) : OutS g W D' σ Z env H r := by
  cases r with
  | ok f e =>
    cases f with
    | nx => exact fun σ2 H2 Z2 p2 => h1 _ _ (h σ2 H2 Z2 p2)
    | bk => exact fun σ2 H2 Z2 p2 => h2 _ _ (h σ2 H2 Z2 p2)
    | ct => exact fun σ2 H2 Z2 p2 => h3 _ _ (h σ2 H2 Z2 p2)
    | rt r => exact fun x σ2 H2 Z2 p2 l => h4 _ _ (h x σ2 H2 Z2 p2 l)
  | er x e => exact h
  | no => exact h
theorem xscons {W : WB} {st : Stmt} {rest : List Stmt} {A B : MS} (h1 : XS X W st A) (h2 : XSs X W rest B) : XSs X W (st :: rest) (mSeq A B) :=
  (pss_cons h1 h2).weak fun D σ H ⟨Z, env, rE, h⟩ => by
    refine ⟨Z, env, rE, ?_⟩
    unfold mSeq M.bind at h
    cases q : A env with
    | no => rw [q] at h; exact h.elim
    | er x e => rw [q] at h; exact h
    | ok f e =>
      rw [q] at h
      cases f with
      | nx => exact fun σ2 H2 Z2 p2 => ⟨Z2, e, p2.rep, OutS.later p2 h⟩
      | bk => exact h
      | ct => exact h
      | rt r => exact h
end
end Ev
end P_Ev5

section P_Ev6
set_option Elab.async false
set_option linter.all false
set_option maxRecDepth 100000
/-! Ev6: what is walked, targets, for, while. -/
namespace Ev
open PySem L2 PySem.Spec
open PyProof.Rows hiding St
set_option autoImplicit false

/-! ### sources -/
/-- an iterator that yields the data ts, as long as inv stands -/
structure Src (K : KB) (J : It) (ts : List T) (inv : Hp → Hp → Prop) : Prop where
  mono : ∀ {G H G' H'}, inv G H → Same G G' → Same G' H' → inv G' H'
  go : ∀ {G H i}, Same G H → inv G H → i < ts.length → J.go i H
  yld : ∀ {G H i x H'}, Same G H → inv G H → J.yld i H x H' → i < ts.length → ∃ t, ts[i]? = some t ∧ New K G H H' (.v t) x
  stop : ∀ {G H i}, Same G H → inv G H → ts.length ≤ i → J.stop i H
abbrev LI (K : KB) (σ : St) : Rel (List T) It := fun Z env _ H ts J => ∃ inv, Src K J ts inv ∧ inv (hid Z env σ H) H
instance {K : KB} {σ : St} : Back (LI K σ) := ⟨fun h _ => h⟩
def tI (g : Gk) (W : WB) (m : M (List T)) : TI := fun σ H R => ∃ Z env, RepEnv (kb g W) Z env σ H ∧ Out g W (LI (kb g W) σ) σ R Z env H (m env)
abbrev XI (X : Cx) (W : WB) (tg iter : Expr) (m : M (List T)) : Prop := PI X tg iter (tI X.g W m)
theorem _root_.L2.PI.weak {X : Cx} {tg e : Expr} {t t' : TI} (h : PI X tg e t) (w : ∀ σ H Q, t' σ H Q → t σ H Q) : PI X tg e t' := ⟨fun pins s σ H Q I q => h.run pins s σ H Q I (w σ H Q q)⟩

section
variable {K : KB}
theorem src_list {a : Addr} {ts : List T} : Src K (Itl K a) ts fun G _ => ∃ vs, SqL K G a vs ∧ RpL K G vs ts where
  mono := fun ⟨vs, h1, h2⟩ e _ => ⟨vs, e.seq h1, h2.mono e⟩
  go := fun {G H i} sm ⟨vs, h1, h2⟩ hi => by
    have hl : i < vs.length := by rw [h2.length]; exact hi
    exact ⟨vs, vs[i], sm.seq h1, List.getElem?_eq_getElem hl⟩
  yld := fun {G H i x H'} sm ⟨vs, h1, h2⟩ hy hi => by
    obtain ⟨rfl, hx⟩ := hy
    obtain ⟨t, e1, e2⟩ := h2.getV (hx vs (sm.seq h1))
    exact ⟨t, e1, .old e2⟩
  stop := fun sm ⟨vs, h1, h2⟩ hi => ⟨vs, sm.seq h1, by rw [h2.length]; exact hi⟩
theorem src_tup {a : Addr} {ts : List T} : Src K (Itt K a) ts fun G _ => ∃ vs, SqT K G a vs ∧ RpL K G vs ts where
  mono := fun ⟨vs, h1, h2⟩ e _ => ⟨vs, sqT_mono e h1, h2.mono e⟩
  go := fun {G H i} sm ⟨vs, h1, h2⟩ hi => by
    have hl : i < vs.length := by rw [h2.length]; exact hi
    exact ⟨vs, vs[i], sqT_mono sm h1, List.getElem?_eq_getElem hl⟩
  yld := fun {G H i x H'} sm ⟨vs, h1, h2⟩ hy hi => by
    obtain ⟨rfl, hx⟩ := hy
    obtain ⟨t, e1, e2⟩ := h2.getV (hx vs (sqT_mono sm h1))
    exact ⟨t, e1, .old e2⟩
  stop := fun sm ⟨vs, h1, h2⟩ hi => ⟨vs, sqT_mono sm h1, by rw [h2.length]; exact hi⟩
def strTs (z : PySem.Str) : List T := z.cps.toList.map fun c => .str ⟨#[c]⟩
theorem src_str {z : PySem.Str} : Src K (Its z) (strTs z) fun _ _ => True where
  mono := fun _ _ _ => trivial
  go := fun {G H i} _ _ hi => by simpa [strTs, Its] using hi
  yld := fun {G H i x H'} sm _ hy hi => by
    obtain ⟨rfl, c, hc, rfl⟩ := hy
    refine ⟨.str ⟨#[c]⟩, ?_, .sc fun _ => .str _⟩
    unfold strTs
    rw [List.getElem?_map]
    have : z.cps.toList[i]? = some c := by simpa using hc
    rw [this]; rfl
  stop := fun {G H i} _ _ hi => by simpa [strTs, Its] using hi
def rngTs (lo : Int) (n : Nat) : List T := (List.range n).map fun (i : Nat) => T.int (lo + (i : Int))
theorem src_rng {lo : Int} {n : Nat} : Src K (Itr lo n) (rngTs lo n) fun _ _ => True where
  mono := fun _ _ _ => trivial
  go := fun {G H i} _ _ hi => by simpa [rngTs, Itr] using hi
  yld := fun {G H i x H'} sm _ hy hi => by
    obtain ⟨rfl, rfl⟩ := hy
    refine ⟨.int (lo + i), ?_, .sc fun _ => .int _⟩
    have hn : i < n := by simpa [rngTs] using hi
    simp [rngTs, hn]
  stop := fun {G H i} _ _ hi => by simpa [rngTs, Itr] using hi
/-- the items of a thing -/
def itemsOf : T → Option (List T)
  | .list ts => some ts
  | .tuple ts => some ts
  | .ro ts => some ts
  | .str z => some (strTs z)
  | _ => none
def sVal (A : M Vw) : M (List T) := A.bind fun r => (toT r).bind fun t => opt (itemsOf t)
end
section
variable {g : Gk} {W : WB} {σ : St} {Z : SetA} {env : Sls} {H : Hp} {X : Cx} {D : Ends}
def iAny (K : PySem.W.Frag) (tl : TE) : TI := fun σ H R => tl σ H fun x H1 => (∃ a, x = .ref a ∧ (∃ xs, SqL K H1 a xs) ∧ R (Itl K a) H1) ∨ (∃ a, x = .ref a ∧ (∃ xs, SqT K H1 a xs) ∧ R (Itt K a) H1) ∨ ∃ z, x = .str z ∧ R (Its z) H1
theorem pi_any {tg e : Expr} {te : TE} (he : PE X e te) : PI X tg e (iAny X.K te) := ⟨fun pins s σ H R I h => by
  refine thn (he.run pins s σ H _ I h) fun v s1 ⟨y, H1, I1, r1, q⟩ => ?_
  rcases q with ⟨a, rfl, ⟨xs, hq⟩, q⟩ | ⟨a, rfl, ⟨xs, hq⟩, q⟩ | ⟨z, rfl, q⟩
  · cases r1
    obtain ⟨its, rv, pl, _⟩ := I1.list hq
    exact wpAny_pyIter_list pl.isList (pi_one (tk := s1.toks) I1 _ (turn_list a _) ⟨_, Heap.get?_push_size _ rfl, rfl, rfl⟩ q)
  · cases r1
    obtain ⟨its, rv, pl, _⟩ := I1.tuple hq
    exact wpAny_pyIter_tuple (show s1.heap.IsTuple a its.toArray from pl) (pi_one (tk := s1.toks) I1 _ (turn_tuple a _) ⟨_, Heap.get?_push_size _ rfl, rfl, rfl⟩ q)
  · obtain ⟨t, rfl⟩ := r1
    by_cases ha : z.cps.all (· < 128) = true
    · exact wpAny_pyIter_ascii ha (pi_one (tk := s1.toks) I1 _ (turn_str _ z t "str_ascii_iterator" (.inl rfl)) ⟨_, Heap.get?_push_size _ rfl, rfl, rfl⟩ q)
    · exact wpAny_pyIter_wide (by simpa using ha) (pi_one (tk := s1.toks) I1 _ (turn_str _ z t "str_iterator" (.inr rfl)) ⟨_, Heap.get?_push_size _ rfl, rfl, rfl⟩ q)⟩
/-- one result, let go -/
theorem Ct.plain1 {γ : Type} {C : SetA → Sls → Hp → R γ → Prop} (c : Ct g W σ C) {Z1 : SetA} {env1 : Sls} {H1 : Hp} {r : Vw} {x : V} {k : T → M γ} (rE : RepEnv (kb g W) Z env σ H) (p1 : Post (kb g W) Z env σ H Z1 env1 σ H1) (k1 : Kp env env1)
    (l1 : RR (kb g W) Z1 env1 σ H H1 r x) (h : C Z env H ((toT r).bind k env1)) : ∃ t env2, RepEnv (kb g W) Z env2 σ H1 ∧ Post (kb g W) Z env σ H Z env2 σ H1 ∧ Kp env env2 ∧ Rp g.K (hid Z env2 σ H1) x t ∧ C Z env2 H1 (k t env2) := by
  cases q : toT r env1 with
  | er y e => exact (toT_er q).elim
  | no => simp only [M.bind, q, R.bind] at h; exact (c.no h).elim
  | ok t env2 =>
    simp only [M.bind, q, R.bind] at h
    obtain ⟨p2, k2, s2⟩ := toT_ok p1.rep l1 q
    have p3 : Post (kb g W) Z env σ H Z env2 σ H1 := (p1.trans p2).lessZ
    exact ⟨t, env2, p3.rep, p3, k1.trans k2, s2 Z p1.zs rE.zd, c.step p3 (k1.trans k2) h⟩
theorem xival {W : WB} {tg e : Expr} {A : M Vw} (he : XE X W e A) : XI X W tg e (sVal A) :=
  (pi_any he).weak fun σ H R ⟨Z, env, rE, h⟩ => ⟨Z, env, rE, (Out.bind0 rE h).mono fun x H1 ⟨Z1, env1, r, p1, k1, l1, c1⟩ => by
    obtain ⟨t, env2, r2, p2, k2, q2, c2⟩ := Out.ct.plain1 rE p1 k1 l1 c1
    cases q2 with
    | lst a b => exact .inl ⟨_, rfl, ⟨_, .of (hid_le _ _ a)⟩, c2 _ H1 Z r2.post Kp.refl ⟨_, src_list, _, .of a, b⟩⟩
    | ro a b => exact .inl ⟨_, rfl, ⟨_, (hid_le (Z := Z) (env := env2) (σ := σ) (H := H1)).seq a⟩, c2 _ H1 Z r2.post Kp.refl ⟨_, src_list, _, a, b⟩⟩
    | tup a b => exact .inr (.inl ⟨_, rfl, ⟨_, sqT_mono hid_le a⟩, c2 _ H1 Z r2.post Kp.refl ⟨_, src_tup, _, a, b⟩⟩)
    | str z => exact .inr (.inr ⟨z, rfl, c2 _ H1 Z r2.post Kp.refl ⟨_, src_str, trivial⟩⟩)
    | _ => exact c2.elim⟩
/-- range(n), range(a, b) -/
def sRng1 (A : M (List Vw)) : M (List T) := A.bind fun rs => (lks rs).bind fun ts e => match ts with
  | [.int j] => if -(2 ^ 62) ≤ j ∧ j < 2 ^ 62 then .ok (rngTs 0 j.toNat) e else .no
  | _ => .no
def sRng2 (A : M (List Vw)) : M (List T) := A.bind fun rs => (lks rs).bind fun ts e => match ts with
  | [.int i, .int j] => if -(2 ^ 62) ≤ i ∧ i < 2 ^ 62 ∧ -(2 ^ 62) ≤ j ∧ j < 2 ^ 62 then .ok (rngTs i (j - i).toNat) e else .no
  | _ => .no
theorem Out.looks {β : Type} {δ : Type} {L : Rel β δ} {Q : δ → Hp → Prop} {rs : List Vw} {xs : List V} {H0 : Hp} {k : List T → M β} (rE : RepEnv (kb g W) Z env σ H) (l : RRs (kb g W) Z env σ H0 H rs xs) (h : Out g W L σ Q Z env H ((lks rs).bind k env)) :
    ∃ ts, Rp1s g.K (hid Z env σ H) H xs ts ∧ Out g W L σ Q Z env H (k ts env) := by
  simp only [M.bind] at h
  cases q : lks rs env with
  | er y e => exact (lks_er q).elim
  | no => rw [q] at h; exact h.elim
  | ok ts env2 =>
    rw [q] at h
    obtain ⟨e2, r2⟩ := rd_lks rE l q
    subst e2
    exact ⟨ts, r2, h⟩
theorem xirng1 {W : WB} {tg a : Expr} {A : M (List Vw)} {p pos : Pos} (hg : Gl X "range") (hm : X.mg "range" = none) (ha : XA X W [a] A) (hs : starEach [a] X.env = [(false, eval a X.env)] := by rfl) :
    XI X W tg (.Call (.Name "range" p) [a] [] pos) (sRng1 A) :=
  (pi_range1 hg hm ha hs).weak fun σ H R ⟨Z, env, rE, h⟩ => ⟨Z, env, rE, (Out.ct.bind h).mono fun xs H1 ⟨Z1, env1, rs, p1, k1, l1, c1⟩ => by
    obtain ⟨ts, r2, c2⟩ := Out.looks p1.rep l1 c1
    split at c2
    · obtain ⟨x, rfl, h⟩ := r2.one
      cases h
      split at c2
      · rename_i hz
        exact ⟨_, rfl, hz.1, hz.2, c2 _ H1 Z1 p1.rep.post Kp.refl ⟨_, src_rng, trivial⟩⟩
      · exact c2.elim
    · exact c2.elim⟩
theorem xirng2 {W : WB} {tg a b : Expr} {A : M (List Vw)} {p pos : Pos} (hg : Gl X "range") (hm : X.mg "range" = none) (ha : XA X W [a, b] A) (hs : starEach [a, b] X.env = [(false, eval a X.env), (false, eval b X.env)] := by rfl) (hs2 : starEach [b] X.env = [(false, eval b X.env)] := by rfl) :
    XI X W tg (.Call (.Name "range" p) [a, b] [] pos) (sRng2 A) :=
  (pi_range2 hg hm ha hs hs2).weak fun σ H R ⟨Z, env, rE, h⟩ => ⟨Z, env, rE, (Out.ct.bind h).mono fun xs H1 ⟨Z1, env1, rs, p1, k1, l1, c1⟩ => by
    obtain ⟨ts, r2, c2⟩ := Out.looks p1.rep l1 c1
    split at c2
    · obtain ⟨x, y, rfl, h, h'⟩ := r2.two
      cases h
      cases h'
      split at c2
      · rename_i hz
        exact ⟨_, _, rfl, hz, c2 _ H1 Z1 p1.rep.post Kp.refl ⟨_, src_rng, trivial⟩⟩
      · exact c2.elim
    · exact c2.elim⟩

/-! ### targets -/
/-- a target that data is bound to -/
structure XG (X : Cx) (tg : Expr) (b : T → M Unit) (t : TG) : Prop where
  pg : PG X tg t
  ok : ∀ {W : WB} {Z : SetA} {env : Sls} {σ : St} {H : Hp} {x : V} {d : T} {env' : Sls} {Q : St → Hp → Prop}, RepEnv (kb X.g W) Z env σ H → Rp X.K (hid Z env σ H) x d → b d env = .ok () env' → (∀ σ', Post (kb X.g W) Z env σ H Z env' σ' H → Q σ' H) → t x σ H Q
  er : ∀ {d : T} {env e : Sls} {y : Exc}, b d env ≠ .er y e
  kp : ∀ {d : T} {env e : Sls}, b d env = .ok () e → Kp env e
structure XGs (X : Cx) (tgs : List Expr) (b : List T → M Unit) (t : TGs) : Prop where
  pg : PGs X tgs t
  ok : ∀ {W : WB} {Z : SetA} {env : Sls} {σ : St} {H : Hp} {xs : List V} {ds : List T} {env' : Sls} {Q : St → Hp → Prop}, RepEnv (kb X.g W) Z env σ H → RpL X.K (hid Z env σ H) xs ds → b ds env = .ok () env' → (∀ σ', Post (kb X.g W) Z env σ H Z env' σ' H → Q σ' H) → t xs σ H Q
  er : ∀ {ds : List T} {env e : Sls} {y : Exc}, b ds env ≠ .er y e
  kp : ∀ {ds : List T} {env e : Sls}, b ds env = .ok () e → Kp env e
def bName (i : Nat) (d : T) : M Unit := fun e => if i < e.length then .ok () (e.set i (.v d)) else .no
def bNil (ds : List T) : M Unit := fun e => match ds with
  | [] => .ok () e
  | _ => .no
def bCons (b : T → M Unit) (bs : List T → M Unit) (ds : List T) : M Unit := fun e => match ds with
  | [] => .no
  | d :: ds => (b d e).bind fun _ => bs ds
def bTup (n : Nat) (bs : List T → M Unit) (d : T) : M Unit := fun e => match d with
  | .tuple ds => if ds.length = n then bs ds e else .no
  | _ => .no
theorem gname {i : Nat} {x : PySem.Str} {pos : Pos} (hN : X.N.Nodup) (hi : X.N[i]? = some x) (hx : Loc X.env.scope x) (hf : X.fn x = true ∨ X.env.scope.names.lookup x = some .local := by first | exact .inl rfl | exact .inr rfl | assumption) : XG X (.Name x pos) (bName i) (gName i) where
  pg := pg_name hN hi hx hf
  ok := fun {W Z env σ H x d env' Q} rE hx e k => by
    unfold bName at e
    split at e
    · rename_i hz; injection e with _ e; subst e
      exact k _ (set_v rE hz hx)
    · cases e
  er := fun {d env e y} h => by unfold bName at h; split at h <;> cases h
  kp := fun {d env e} h j f => by
    unfold bName at h
    split at h
    · rename_i hz; injection h with _ h; subst h
      by_cases q : i = j
      · subst q; exact .inr ⟨_, List.getElem?_set_self hz⟩
      · unfold Full; rw [List.getElem?_set_ne q]; exact f
    · cases h
theorem gnil : XGs X [] bNil gNil where
  pg := pgs_nil
  ok := fun {W Z env σ H xs ds env' Q} rE hx e k => by
    cases hx with
    | nil => injection e with _ e; subst e; exact ⟨rfl, k _ rE.post⟩
    | cons _ _ => cases e
  er := fun {ds env e y} h => by cases ds <;> cases h
  kp := fun {ds env e} h => by
    cases ds with
    | nil => injection h with _ h; subst h; exact Kp.refl
    | cons _ _ => cases h
theorem gcons {e : Expr} {es : List Expr} {b : T → M Unit} {bs : List T → M Unit} {t : TG} {ts : TGs} (h1 : XG X e b t) (h2 : XGs X es bs ts)
    (hs : (assignEach (e :: es) X.env).map (fun x => x.snd) = assign e X.env :: (assignEach es X.env).map (fun x => x.snd) := by rfl) : XGs X (e :: es) (bCons b bs) (gCons t ts) where
  pg := pgs_cons h1.pg h2.pg hs
  ok := fun {W Z env σ H xs ds env' Q} rE hx e k => by
    cases hx with
    | nil => cases e
    | cons a r =>
      rename_i x xs d ds
      simp only [bCons] at e
      cases q : b d env with
      | er y e' => exact (h1.er q).elim
      | no => rw [q] at e; cases e
      | ok u env1 =>
        cases u
        rw [q] at e
        exact ⟨x, xs, rfl, h1.ok rE a q fun σ1 p1 => h2.ok p1.rep (r.mono p1.same) e fun σ2 p2 => k σ2 (p1.trans p2)⟩
  er := fun {ds env e y} h => by
    cases ds with
    | nil => cases h
    | cons d ds =>
      simp only [bCons] at h
      cases q : b d env with
      | er y e' => exact h1.er q
      | no => rw [q] at h; cases h
      | ok u env1 => rw [q] at h; exact h2.er h
  kp := fun {ds env e} h => by
    cases ds with
    | nil => cases h
    | cons d ds =>
      simp only [bCons] at h
      cases q : b d env with
      | er y e' => exact (h1.er q).elim
      | no => rw [q] at h; cases h
      | ok u env1 => cases u; rw [q] at h; exact (h1.kp q).trans (h2.kp h)
theorem gtup {es : List Expr} {k n : Nat} {bs : List T → M Unit} {ts : TGs} {pos : Pos} (hc : X.calm = true) (h : XGs X es bs ts) (hn : (assignEach es X.env).length = n := by rfl) (hst : (assignEach es X.env).findIdx? (·.1) = none := by rfl) : XG X (.Tuple es k pos) (bTup n bs) (gTup X.K n ts) where
  pg := pg_tup hc h.pg hn hst
  ok := fun {W Z env σ H x d env' Q} rE hx e k => by
    cases hx with
    | tup a r =>
      simp only [bTup] at e
      split at e
      · rename_i hz; exact ⟨_, _, rfl, sqT_mono hid_le a, by rw [r.length]; exact hz, h.ok rE r e k⟩
      · cases e
    | _ => cases e
  er := fun {d env e y} q => by
    cases d <;> simp only [bTup] at q <;> first | (cases q; done) | (split at q <;> first | exact h.er q | cases q)
  kp := fun {d env e} q => by
    cases d <;> simp only [bTup] at q <;> first | (cases q; done) | (split at q <;> first | exact h.kp q | cases q)
/-- a, b = e, e a tuple -/
def mUnp (A : M Vw) (b : T → M Unit) : MS := A.bind fun r => (toT r).bind fun d => (b d).bind fun _ e => .ok .nx e
theorem xunp {W : WB} {tg e : Expr} {A : M Vw} {b : T → M Unit} {t : TG} {pos : Pos} (he : XE X W e A) (hg : XG X tg b t) (hs : swapsWithSole [tg] e pos.line X.env = pure false := by rfl) (hw : swappedStores [tg] e X.env = pure none := by rfl) (h1 : (assignEach [tg] X.env).map (fun x => x.snd) = [assign tg X.env] := by rfl) : XS X W (.Assign [tg] e pos) (mUnp A b) :=
  (ps_asg he hg.pg hs hw h1).weak fun D σ H ⟨Z, env, rE, h⟩ => ⟨Z, env, rE, (OutS.bind0 rE h).mono fun x H1 ⟨Z1, env1, r, p1, l1, c1⟩ => by
    simp only [M.bind] at c1
    cases q : toT r env1 with
    | er y e => exact (toT_er q).elim
    | no => rw [q] at c1; exact c1.elim
    | ok d env2 =>
      rw [q] at c1
      simp only [R.bind, M.bind] at c1
      obtain ⟨p2, k2, s2⟩ := toT_ok p1.rep l1 q
      have p3 := (p1.trans p2).lessZ
      cases q2 : b d env2 with
      | er y e => exact (hg.er q2).elim
      | no => rw [q2] at c1; exact c1.elim
      | ok u env3 =>
        cases u
        rw [q2] at c1
        exact hg.ok p3.rep (s2 Z p1.zs rE.zd) q2 fun σ' p4 => c1 σ' H1 Z (p3.trans p4)⟩
/-- a, b, .. = a list -/
def bLst (n : Nat) (bs : List T → M Unit) (d : T) : M Unit := fun e => match d with
  | .list ds => if ds.length = n then bs ds e else .no
  | _ => .no
theorem glst {es : List Expr} {k n : Nat} {bs : List T → M Unit} {ts : TGs} {pos : Pos} (hc : X.calm = true) (h : XGs X es bs ts) (hn : (assignEach es X.env).length = n := by rfl) (hst : (assignEach es X.env).findIdx? (·.1) = none := by rfl) : XG X (.Tuple es k pos) (bLst n bs) (gLst X.K n ts) where
  pg := pg_lst hc h.pg hn hst
  ok := fun {W Z env σ H x d env' Q} rE hx e k => by
    cases hx with
    | lst a r =>
      simp only [bLst] at e
      split at e
      · rename_i hz; exact ⟨_, _, rfl, .of (hid_le _ _ a), by rw [r.length]; exact hz, h.ok rE r e k⟩
      · cases e
    | _ => cases e
  er := fun {d env e y} q => by
    cases d <;> simp only [bLst] at q <;> first | (cases q; done) | (split at q <;> first | exact h.er q | cases q)
  kp := fun {d env e} q => by
    cases d <;> simp only [bLst] at q <;> first | (cases q; done) | (split at q <;> first | exact h.kp q | cases q)

/-! ### for -/
def afterTurn (next : MS) : Fl → MS
  | .nx => next
  | .ct => next
  | .bk => fun e => .ok .nx e
  | .rt r => fun e => .ok (.rt r) e
def forL (b : T → M Unit) (B : MS) : List T → MS
  | [] => fun e => .ok .nx e
  | t :: ts => (b t).bind fun _ => B.bind (afterTurn (forL b B ts))
def mFor (S : M (List T)) (b : T → M Unit) (B : MS) : MS := S.bind fun ts => forL b B ts
theorem for_core {W : WB} {D : Ends} {σ0 : St} {H0 H1 : Hp} {Z : SetA} {env0 env1 : Sls} {ts : List T} {J : It} {inv : Hp → Hp → Prop} {b : T → M Unit} {B : MS} {tg : Expr} {t : TG} (hg : XG X tg b t) (sr : Src (kb X.g W) J ts inv)
    (p1' : Post (kb X.g W) Z env0 σ0 H0 Z env1 σ0 H1) (hinv : inv (hid Z env1 σ0 H1) H1) (c1 : OutS X.g W D σ0 Z env0 H0 (forL b B ts env1)) :
    ∃ Wv : Nat → Nat → St → Hp → Prop, (∃ m, Wv 0 m σ0 H1) ∧ ∀ i m σ H, Wv i m σ H → (J.stop i H ∧ D.nx σ H) ∨ (J.go i H ∧ ∃ N : St → Hp → Prop, (∀ σ' H', N σ' H' → ∃ m', m' < m ∧ Wv (i + 1) m' σ' H') ∧
      ∀ x H', J.yld i H x H' → t x σ H' fun σ2 H2 => tS X.g W B { D with nx := N, ct := N, bk := D.nx } σ2 H2) := by
    refine ⟨fun i m σ H => m = ts.length - i ∧ i ≤ ts.length ∧ ∃ env, Post (kb X.g W) Z env0 σ0 H0 Z env σ H ∧ inv (hid Z env σ H) H ∧ OutS X.g W D σ0 Z env0 H0 (forL b B (ts.drop i) env),
      ⟨ts.length, by simp, Nat.zero_le _, env1, p1', hinv, by simpa using c1⟩, ?_⟩
    rintro i m σ H ⟨rfl, hi, env, p, hv, ho⟩
    by_cases hlt : i < ts.length
    · refine .inr ⟨sr.go hid_le hv hlt, fun σ' H' => i + 1 ≤ ts.length ∧ ∃ env, Post (kb X.g W) Z env0 σ0 H0 Z env σ' H' ∧ inv (hid Z env σ' H') H' ∧ OutS X.g W D σ0 Z env0 H0 (forL b B (ts.drop (i + 1)) env),
        fun σ' H' hN => ⟨ts.length - (i + 1), by omega, rfl, hN⟩, fun x H' hy => ?_⟩
      obtain ⟨d, hd, sm, hx⟩ := sr.yld hid_le hv hy hlt
      have ed : ts.drop i = d :: ts.drop (i + 1) := by
        rw [List.drop_eq_getElem_cons hlt]
        have := List.getElem?_eq_getElem hlt
        rw [hd] at this
        injection this with this
        rw [this]
      rw [ed] at ho
      simp only [forL, M.bind] at ho
      -- the heap may have grown by what was yielded
      have s1 : Same (hid Z env σ H) (hid Z env σ H') := fun q o e => by
        obtain ⟨h1, h2, h3⟩ := hid_some.mp e
        exact hid_some.mpr ⟨h1, h2, sm _ _ h3⟩
      have rE1 := p.rep
      have pg : Post (kb X.g W) Z env σ H Z env σ H' := by
        refine ⟨⟨rE1.len, fun i t e => ?_, fun i o e => ?_, rE1.inj, fun p hz => ?_⟩, fun p o e _ => sm p o e, fun p o e => ⟨o, sm p o e⟩, fun _ e => .inl e, fun _ e => e, fun _ e => .inl e⟩
        · obtain ⟨x, h1, h2⟩ := rE1.v i t e; exact ⟨x, h1, h2.mono s1⟩
        · obtain ⟨a, h1, h2, h3⟩ := rE1.own i o e; exact ⟨a, h1, h2, h3.mono s1 fun u e => sm a u e⟩
        · obtain ⟨o, e⟩ := rE1.zd p hz; exact ⟨o, sm p o e⟩
      have hxd : Rp X.K (hid Z env σ H') x d := hx _ s1 fun q o e1 e2 => by
        refine hid_some.mpr ⟨fun hz => ?_, fun so => ?_, e2⟩
        · obtain ⟨o', e⟩ := rE1.zd q hz
          rw [e1] at e; cases e
        · obtain ⟨o', e⟩ := rE1.so_dom so
          rw [e1] at e; cases e
      cases q : b d env with
      | er y e => exact (hg.er q).elim
      | no => rw [q] at ho; exact ho.elim
      | ok u env2 =>
        cases u
        rw [q] at ho
        simp only [R.bind, M.bind] at ho
        refine hg.ok pg.rep hxd q fun σ2 p2 => ⟨Z, env2, p2.rep, ?_⟩
        have p3 := (p.trans pg).trans p2
        have v3 : inv (hid Z env2 σ2 H') H' := sr.mono hv (fun q o e => p2.same _ _ (s1 _ _ e)) hid_le
        cases qB : B env2 with
        | no => rw [qB] at ho; exact ho.elim
        | er y e => rw [qB] at ho; exact fun cls d' σ' H'' p4 rx => ho cls d' σ' H'' (p3.trans p4) rx
        | ok f env3 =>
          rw [qB] at ho
          have ho' : OutS X.g W D σ0 Z env0 H0 (afterTurn (forL b B (ts.drop (i + 1))) f env3) := ho
          cases f with
          | nx => exact fun σ' H'' Z' p4 => ⟨hlt, env3, p3.trans p4.lessZ, sr.mono v3 p4.lessZ.same hid_le, ho'⟩
          | ct => exact fun σ' H'' Z' p4 => ⟨hlt, env3, p3.trans p4.lessZ, sr.mono v3 p4.lessZ.same hid_le, ho'⟩
          | bk => exact fun σ' H'' Z' p4 => ho' σ' H'' Z' (p3.trans p4)
          | rt r => exact fun x σ' H'' Z' p4 l => ho' x σ' H'' Z' (p3.trans p4) (l.start fun _ => p3.none)
    · refine .inl ⟨sr.stop hid_le hv (by omega), ?_⟩
      have : ts.drop i = [] := List.drop_eq_nil_of_le (by omega)
      rw [this] at ho
      exact ho σ H Z p
theorem xfor {W : WB} {tg iter : Expr} {body : List Stmt} {S : M (List T)} {b : T → M Unit} {t : TG} {B : MS} {pos : Pos} (hp : PassesOwn (model X.prog X.w) X.A X.env X.xe) (hc : X.calm = true) (hi : XI X W tg iter S) (hg : XG X tg b t) (hb : XSs X W body B) (hs : ∀ x, foldedSetIterable iter X.env x = pure x := by intro _; rfl) :
    XS X W (.For tg iter body [] pos) (mFor S b B) :=
  (ps_for hp hc hi hg.pg hb hs).weak fun D σ0 H0 ⟨Z, env0, rE, h⟩ => ⟨Z, env0, rE, (OutS.bind0 rE h).mono fun J H1 ⟨Z1, env1, ts, p1, ⟨inv, sr, hinv⟩, c1⟩ => for_core hg sr p1.lessZ (sr.mono hinv (hid_lessZ p1.zs) hid_le) c1⟩

/-! ### while -/
def whileN (C : M Bool) (B : MS) : Nat → MS
  | 0 => fun _ => .no
  | n + 1 => C.bind fun c => if c then B.bind (afterTurn (whileN C B n)) else fun e => .ok .nx e
def isNo {α : Type} : R α → Prop
  | .no => True
  | _ => False
open Classical in
noncomputable def mWhile (C : M Bool) (B : MS) : MS := fun e => if h : ∃ n, ¬ isNo (whileN C B n e) then whileN C B (Classical.choose h) e else .no
theorem whileN_step {C : M Bool} {B : MS} : ∀ (n : Nat) (e : Sls), ¬ isNo (whileN C B n e) → whileN C B (n + 1) e = whileN C B n e
  | 0, e, h => (h trivial).elim
  | n + 1, e, h => by
    have e1 : ∀ k, whileN C B (k + 1) e = (C e).bind fun c => if c then B.bind (afterTurn (whileN C B k)) else fun e => .ok .nx e := fun k => rfl
    rw [e1] at h
    rw [e1, e1]
    cases q : C e with
    | no => rfl
    | er y e' => rfl
    | ok c e2 =>
      rw [q] at h
      cases c with
      | false => rfl
      | true =>
        have h2 : ¬ isNo ((B e2).bind (afterTurn (whileN C B n))) := h
        show (B e2).bind (afterTurn (whileN C B (n + 1))) = (B e2).bind (afterTurn (whileN C B n))
        cases qB : B e2 with
        | no => rfl
        | er y e' => rfl
        | ok f e3 =>
          rw [qB] at h2
          cases f with
          | nx => exact whileN_step n e3 h2
          | ct => exact whileN_step n e3 h2
          | bk => rfl
          | rt r => rfl
theorem whileN_le {C : M Bool} {B : MS} {n m : Nat} {e : Sls} (h : ¬ isNo (whileN C B n e)) (hm : n ≤ m) : whileN C B m e = whileN C B n e := by
  induction m with
  | zero => cases (show n = 0 by omega); rfl
  | succ m ih =>
    by_cases q : n = m + 1
    · rw [q]
    · have e1 := ih (by omega)
      rw [whileN_step m e (by rw [e1]; exact h), e1]
theorem mWhile_of {C : M Bool} {B : MS} {n : Nat} {e : Sls} (h : ¬ isNo (whileN C B n e)) : mWhile C B e = whileN C B n e := by
  unfold mWhile
  rw [dif_pos ⟨n, h⟩]
  have hc := Classical.choose_spec (p := fun n => ¬ isNo (whileN C B n e)) ⟨n, h⟩
  by_cases q : n ≤ Classical.choose (p := fun n => ¬ isNo (whileN C B n e)) ⟨n, h⟩
  · exact whileN_le h q
  · exact (whileN_le hc (by omega)).symm
theorem mWhile_some {C : M Bool} {B : MS} {e : Sls} (h : ¬ isNo (mWhile C B e)) : ∃ n, ¬ isNo (whileN C B n e) ∧ mWhile C B e = whileN C B n e := by
  by_cases q : ∃ n, ¬ isNo (whileN C B n e)
  · obtain ⟨n, q⟩ := q
    exact ⟨n, q, mWhile_of q⟩
  · unfold mWhile at h
    rw [dif_neg q] at h
    exact (h trivial).elim
theorem OutS.notNo {r : R Fl} (h : OutS g W D σ Z env H r) : ¬ isNo r := by
  cases r with
  | no => exact h.elim
  | ok f e => exact fun z => z
  | er y e => exact fun z => z
theorem xwhile {W : WB} {c : Expr} {body : List Stmt} {C : M Bool} {B : MS} {pos : Pos} (hp : PassesOwn (model X.prog X.w) X.A X.env X.xe) (hc : XT X W c C) (hb : XSs X W body B) : XS X W (.While c body [] pos) (mWhile C B) :=
  (ps_while hp hc hb).weak fun D σ0 H0 ⟨Z, env0, rE, h⟩ => by
    obtain ⟨n, hn, en⟩ := mWhile_some h.notNo
    rw [en] at h
    refine ⟨fun m σ H => ∃ env, Post (kb X.g W) Z env0 σ0 H0 Z env σ H ∧ OutS X.g W D σ0 Z env0 H0 (whileN C B m env), ⟨n, env0, rE.post, h⟩, ?_⟩
    rintro m σ H ⟨env, p, ho⟩
    cases m with
    | zero => exact ho.elim
    | succ m =>
      unfold whileN at ho
      have ctb : Ct X.g W σ fun Z1 env1 H1 (r : R Fl) => Post (kb X.g W) Z env0 σ0 H0 Z1 env1 σ H1 ∧ OutS X.g W D σ0 Z env0 H0 r :=
        ⟨fun h cls d H' q rx => h.2 cls d σ H' (h.1.trans q).lessZ (rx.mono (hid_lessZ h.1.zs)), fun h => h.2, fun q k h => ⟨h.1.trans q, h.2⟩⟩
      refine ⟨Z, env, p.rep, (ctb.bind (L := LB) (m := C env) ⟨p, ho⟩).mono fun k H1 ⟨Z1, env1, a, p1, k1, l1, c1⟩ => ?_⟩
      have ec : a = k := l1
      subst ec
      obtain ⟨p2, c1⟩ := c1
      cases a with
      | false =>
        rw [if_neg Bool.false_ne_true]
        exact c1 σ H1 Z1 p2
      | true =>
        rw [if_pos rfl]
        refine ⟨fun σ' H' => ∃ env, Post (kb X.g W) Z env0 σ0 H0 Z env σ' H' ∧ OutS X.g W D σ0 Z env0 H0 (whileN C B m env), fun σ' H' hN => ⟨m, by omega, hN⟩, Z1, env1, p1.rep, ?_⟩
        rw [if_pos rfl] at c1
        unfold M.bind at c1
        cases qB : B env1 with
        | no => rw [qB] at c1; exact c1.elim
        | er y e => rw [qB] at c1; exact fun cls d' σ' H'' p4 rx => c1 cls d' σ' H'' (p2.trans p4).lessZ (rx.mono (hid_lessZ p2.zs))
        | ok f env3 =>
          rw [qB] at c1
          have ho' : OutS X.g W D σ0 Z env0 H0 (afterTurn (whileN C B m) f env3) := c1
          cases f with
          | nx => exact fun σ' H'' Z' p4 => ⟨env3, (p2.trans p4).lessZ, ho'⟩
          | ct => exact fun σ' H'' Z' p4 => ⟨env3, (p2.trans p4).lessZ, ho'⟩
          | bk => exact fun σ' H'' Z' p4 => ho' σ' H'' Z' (p2.trans p4)
          | rt r => exact fun x σ' H'' Z' p4 l => ho' x σ' H'' Z' (p2.trans p4) (l.start fun _ => p2.none)
end
end Ev
end P_Ev6

section P_Ev7
set_option Elab.async false
set_option linter.all false
set_option maxRecDepth 100000
/-! Ev7: list comprehensions. -/
namespace Ev
open PySem L2 PySem.Spec
open PyProof.Rows hiding St
set_option autoImplicit false

def wipeE (e : Sls) : List Nat → Sls
  | [] => e
  | v :: vs => (wipeE e vs).set v .non
def nox {α : Type} (m : M α) : M α := fun e => match m e with
  | .ok a e => .ok a e
  | _ => .no
/-- nothing may be raised -/
def WF (W : WB) : WB := ⟨fun _ _ _ _ => False, W.β⟩
def clear (e : Sls) (vs : List Nat) : Bool := vs.all fun i => match e[i]? with
  | some .non => true
  | _ => false
def lcL (b : T → M Unit) (C : M Bool) (E : M Vw) (vs : List Nat) (acc : List T) : List T → M Vw
  | [] => fun e => .ok (.fr (.lst acc)) e
  | t :: ts => (nox (b t)).bind fun _ => (nox C).bind fun c => if c then (nox E).bind fun r => (nox (toT r)).bind fun u e => if acc.length < sizeLine then lcL b C E vs (acc ++ [u]) ts (wipeE e vs) else .no
      else fun e => lcL b C E vs acc ts (wipeE e vs)
def mLc (S : M (List T)) (b : T → M Unit) (C : M Bool) (E : M Vw) (vs : List Nat) : M Vw := S.bind fun ts e => if clear e vs then lcL b C E vs [] ts e else .no
def cYes : M Bool := fun e => .ok true e

section
variable {K : KB} {Z Z1 : SetA} {env env1 : Sls} {σ σ1 : St} {H H1 : Hp} {vs : List Nat}
theorem wipeE_len : ∀ vs : List Nat, (wipeE env vs).length = env.length
  | [] => rfl
  | v :: vs => by unfold wipeE; rw [List.length_set, wipeE_len vs]
theorem wipeE_out {i : Nat} : ∀ {vs : List Nat}, i ∉ vs → (wipeE env vs)[i]? = env[i]?
  | [], _ => rfl
  | v :: vs, h => by
    have h1 : v ≠ i := fun e => h (by rw [e]; exact List.mem_cons_self)
    unfold wipeE
    rw [List.getElem?_set_ne h1]
    exact wipeE_out fun q => h (List.mem_cons_of_mem _ q)
theorem wipeE_in {i : Nat} {s : Sl} : ∀ {vs : List Nat}, i ∈ vs → (wipeE env vs)[i]? = some s → s = .non
  | v :: vs, h, e => by
    unfold wipeE at e
    by_cases q : v = i
    · subst q
      rw [List.getElem?_set] at e
      simp only [if_pos] at e
      split at e
      · injection e with e; exact e.symm
      · cases e
    · rw [List.getElem?_set_ne q] at e
      rcases List.mem_cons.mp h with z | z
      · exact (q z.symm).elim
      · exact wipeE_in z e
theorem wipeE_some {i : Nat} {s : Sl} (h : (wipeE env vs)[i]? = some s) (hs : s ≠ .non) : env[i]? = some s ∧ i ∉ vs := by
  by_cases q : i ∈ vs
  · exact (hs (wipeE_in q h)).elim
  · rw [wipeE_out q] at h; exact ⟨h, q⟩
theorem wipe_so {p : Addr} (h : SO (wipeE env vs) (wipe σ vs) p) : SO env σ p := by
  obtain ⟨i, o, h1, h2⟩ := h
  obtain ⟨h3, h4⟩ := wipeE_some h1 (by intro e; cases e)
  rw [wipe_out h4] at h2
  exact ⟨i, o, h3, h2⟩
/-- some slots forgotten, in both -/
theorem wipe_post (rE : RepEnv K Z env σ H) : Post K Z env σ H Z (wipeE env vs) (wipe σ vs) H := by
  have sm : Same (hid Z env σ H) (hid Z (wipeE env vs) (wipe σ vs) H) := fun p u e => by
    obtain ⟨e1, e2, e3⟩ := hid_some.mp e
    exact hid_some.mpr ⟨e1, fun z => e2 (wipe_so z), e3⟩
  refine ⟨⟨by rw [wipeE_len, wipe_length]; exact rE.len, fun j u e => ?_, fun j u e => ?_, fun j k u w b e1 e2 e3 e4 => ?_, rE.zd⟩, fun _ _ e _ => e, fun _ o e => ⟨o, e⟩, fun p e => .inl (wipe_so e), fun _ e => e, fun _ e => .inl e⟩
  · obtain ⟨h3, h4⟩ := wipeE_some e (by intro e; cases e)
    obtain ⟨x, h5, h6⟩ := rE.v j u h3
    exact ⟨x, by rw [wipe_out h4]; exact h5, h6.mono sm⟩
  · obtain ⟨h3, h4⟩ := wipeE_some e (by intro e; cases e)
    obtain ⟨a, h5, h6, h7⟩ := rE.own j u h3
    exact ⟨a, by rw [wipe_out h4]; exact h5, h6, h7.mono sm fun _ e => e⟩
  · obtain ⟨h3, h4⟩ := wipeE_some e1 (by intro e; cases e)
    obtain ⟨h5, h6⟩ := wipeE_some e2 (by intro e; cases e)
    rw [wipe_out h4] at e3
    rw [wipe_out h6] at e4
    exact rE.inj j k u w b h3 h5 e3 e4
/-- the slots alone are another's, where the environment says nothing of them -/
theorem swap_post (rE : RepEnv K Z env σ H) (hc : ∀ i, i ∈ vs → ∀ s, env[i]? = some s → s = .non) (hs : ∀ i, i ∉ vs → σ1[i]? = σ[i]?) (hl : σ1.length = σ.length) : Post K Z env σ H Z env σ1 H := by
  have key : ∀ (i : Nat) (s : Sl), env[i]? = some s → s ≠ .non → σ1[i]? = σ[i]? := fun i s e n => hs i fun q => n (hc i q s e)
  have so : ∀ p, SO env σ1 p ↔ SO env σ p := fun p => by
    constructor
    · rintro ⟨i, o, h1, h2⟩; exact ⟨i, o, h1, by rw [← key i _ h1 (by intro e; cases e)]; exact h2⟩
    · rintro ⟨i, o, h1, h2⟩; exact ⟨i, o, h1, by rw [key i _ h1 (by intro e; cases e)]; exact h2⟩
  have sm : Same (hid Z env σ H) (hid Z env σ1 H) := fun p u e => by
    obtain ⟨e1, e2, e3⟩ := hid_some.mp e
    exact hid_some.mpr ⟨e1, fun z => e2 ((so p).mp z), e3⟩
  refine ⟨⟨by rw [hl]; exact rE.len, fun j u e => ?_, fun j u e => ?_, fun j k u w b e1 e2 e3 e4 => ?_, rE.zd⟩, fun _ _ e _ => e, fun _ o e => ⟨o, e⟩, fun p e => .inl ((so p).mp e), fun _ e => e, fun _ e => .inl e⟩
  · obtain ⟨x, h5, h6⟩ := rE.v j u e
    exact ⟨x, by rw [key j _ e (by intro e; cases e)]; exact h5, h6.mono sm⟩
  · obtain ⟨a, h5, h6, h7⟩ := rE.own j u e
    exact ⟨a, by rw [key j _ e (by intro e; cases e)]; exact h5, h6, h7.mono sm fun _ e => e⟩
  · rw [key j _ e1 (by intro e; cases e)] at e3
    rw [key k _ e2 (by intro e; cases e)] at e4
    exact rE.inj j k u w b e1 e2 e3 e4
theorem clear_ok (h : clear env vs = true) : ∀ i, i ∈ vs → ∀ s, env[i]? = some s → s = .non := fun i hi s e => by
  unfold clear at h
  have := (List.all_eq_true.mp h) i hi
  rw [e] at this
  cases s with
  | non => rfl
  | _ => cases this
/-- the heap grows by a thing that is new -/
theorem Post.grow (rE : RepEnv K Z env σ H) (sm : Same H H1) : Post K Z env σ H Z env σ H1 := by
  have s1 : Same (hid Z env σ H) (hid Z env σ H1) := fun q o e => by
    obtain ⟨h1, h2, h3⟩ := hid_some.mp e
    exact hid_some.mpr ⟨h1, h2, sm _ _ h3⟩
  refine ⟨⟨rE.len, fun i t e => ?_, fun i o e => ?_, rE.inj, fun p hz => ?_⟩, fun p o e _ => sm p o e, fun p o e => ⟨o, sm p o e⟩, fun _ e => .inl e, fun _ e => e, fun _ e => .inl e⟩
  · obtain ⟨x, h1, h2⟩ := rE.v i t e; exact ⟨x, h1, h2.mono s1⟩
  · obtain ⟨a, h1, h2, h3⟩ := rE.own i o e; exact ⟨a, h1, h2, h3.mono s1 fun u e => sm a u e⟩
  · obtain ⟨o, e⟩ := rE.zd p hz; exact ⟨o, sm p o e⟩
/-- a new thing, hidden -/
theorem Post.hide {D : Addr} {u : HO} (rE : RepEnv K Z env σ H) (hD : H D = Option.none) : Post K Z env σ H (fun p => Z p ∨ p = D) env σ (upd H D u) := by
  have sm : Same H (upd H D u) := fun b o e => by rw [upd_ne (ne_of_none e hD)]; exact e
  have nso : ¬ SO env σ D := fun so => by obtain ⟨o', e⟩ := rE.so_dom so; rw [hD] at e; cases e
  have s1 : Same (hid Z env σ H) (hid (fun p => Z p ∨ p = D) env σ (upd H D u)) := fun p o e => by
    obtain ⟨h1, h2, h3⟩ := hid_some.mp e
    refine hid_some.mpr ⟨fun z => z.elim h1 fun z => ?_, h2, sm _ _ h3⟩
    subst z; rw [hD] at h3; cases h3
  refine ⟨⟨rE.len, fun i t e => ?_, fun i o e => ?_, rE.inj, fun p hz => ?_⟩, fun p o e _ => sm p o e, fun p o e => ⟨o, sm p o e⟩, fun _ e => .inl e, fun _ e => .inl e, fun p e => ?_⟩
  · obtain ⟨x, h1, h2⟩ := rE.v i t e; exact ⟨x, h1, h2.mono s1⟩
  · obtain ⟨b, h1, h2, h3⟩ := rE.own i o e
    refine ⟨b, h1, fun z => z.elim h2 fun z => ?_, h3.mono s1 fun u e => sm b u e⟩
    subst z; exact nso ⟨i, o, e, h1⟩
  · rcases hz with hz | rfl
    · obtain ⟨o, e⟩ := rE.zd p hz; exact ⟨o, sm p o e⟩
    · exact ⟨_, upd_same⟩
  · rcases e with e | rfl
    · exact .inl e
    · exact .inr hD
/-- a hidden thing is written -/
theorem hid_updZ {D : Addr} {u : HO} (hz : Z D) : hid Z env σ (upd H D u) = hid Z env σ H := by
  funext p
  unfold hid
  by_cases e : p = D
  · subst e; rw [if_pos (.inl hz), if_pos (.inl hz)]
  · rw [upd_ne e]
theorem RepEnv.updZ {D : Addr} {u : HO} (rE : RepEnv K Z env σ H) (hz : Z D) : RepEnv K Z env σ (upd H D u) := by
  refine ⟨rE.len, fun i t e => ?_, fun i o e => ?_, rE.inj, fun p hp => ?_⟩
  · rw [hid_updZ hz]; exact rE.v i t e
  · obtain ⟨a, h1, h2, h3⟩ := rE.own i o e
    refine ⟨a, h1, h2, ?_⟩
    rw [hid_updZ hz]
    exact h3.mono (fun _ _ e => e) fun v e => by rw [upd_ne (fun z => h2 (by rw [z]; exact hz))]; exact e
  · by_cases e : p = D
    · subst e; exact ⟨_, upd_same⟩
    · rw [upd_ne e]; exact rE.zd p hp
theorem Post.updZ {env' : Sls} {σ' : St} {H' : Hp} {D : Addr} {u : HO} (p : Post K Z env σ H Z1 env' σ' H') (hz : Z1 D) (hD : H D = Option.none) : Post K Z env σ H Z1 env' σ' (upd H' D u) :=
  ⟨p.rep.updZ hz, fun q o e n => by rw [upd_ne (ne_of_none e hD)]; exact p.fr q o e n, fun q o e => by rw [upd_ne (ne_of_none e hD)]; exact p.dom q o e, p.so, p.zs, p.zn⟩
end
/-- a target that binds no other slots -/
def Wp (t : TG) (vs : List Nat) : Prop := ∀ x σ H Q, t x σ H Q → t x σ H fun σ' H' => Q σ' H' ∧ wipe σ' vs = wipe σ vs
def Wps (t : TGs) (vs : List Nat) : Prop := ∀ x σ H Q, t x σ H Q → t x σ H fun σ' H' => Q σ' H' ∧ wipe σ' vs = wipe σ vs
theorem wipe_set {σ : St} {i : Nat} {x : Option V} : ∀ {vs : List Nat}, i ∈ vs → wipe (σ.set i x) vs = wipe σ vs
  | v :: vs, h => by
    unfold wipe
    by_cases q : i ∈ vs
    · rw [wipe_set q]
    · have e : i = v := by
        rcases List.mem_cons.mp h with z | z
        · exact z
        · exact (q z).elim
      subst e
      apply List.ext_getElem?
      intro j
      by_cases ej : i = j
      · subst ej
        rw [List.getElem?_set, List.getElem?_set, wipe_length, wipe_length, List.length_set, if_pos rfl, if_pos rfl]
      · rw [List.getElem?_set_ne ej, List.getElem?_set_ne ej]
        by_cases q2 : j ∈ vs
        · have e1 : ∀ (σ : St) (vs : List Nat), j ∈ vs → (wipe σ vs)[j]? = if j < σ.length then some none else none := by
            intro σ vs
            induction vs with
            | nil => intro h; cases h
            | cons v vs ih =>
              intro h
              unfold wipe
              rw [List.getElem?_set, wipe_length]
              by_cases z : v = j
              · simp [z]
              · rw [if_neg z]
                exact ih ((List.mem_cons.mp h).resolve_left fun y => z y.symm)
          rw [e1 _ _ q2, e1 _ _ q2, List.length_set]
        · rw [wipe_out q2, wipe_out q2, List.getElem?_set_ne ej]
theorem wp_name {i : Nat} {vs : List Nat} (h : i ∈ vs) : Wp (gName i) vs := fun x σ H Q q => ⟨q, wipe_set h⟩
theorem wps_nil {vs : List Nat} : Wps gNil vs := fun x σ H Q q => ⟨q.1, q.2, rfl⟩
theorem wps_cons {t : TG} {u : TGs} {vs : List Nat} (hm : ∀ x σ H Q Q', (∀ σ H, Q σ H → Q' σ H) → t x σ H Q → t x σ H Q') (h1 : Wp t vs) (h2 : Wps u vs) : Wps (gCons t u) vs := fun x σ H Q ⟨v, r, e, q⟩ =>
  ⟨v, r, e, hm _ _ _ _ _ (fun σ1 H1 ⟨a, b⟩ => by
    have := h2 r σ1 H1 _ a
    rw [b] at this
    exact this) (h1 _ _ _ _ q)⟩
theorem wp_tup {K : KB} {n : Nat} {t : TGs} {vs : List Nat} (h : Wps t vs) : Wp (gTup K n t) vs := fun x σ H Q ⟨a, xs, e, s, l, q⟩ => ⟨a, xs, e, s, l, h _ _ _ _ q⟩
theorem gm_name {i : Nat} : ∀ (x : V) (σ : St) (H : Hp) (Q Q' : St → Hp → Prop), (∀ σ H, Q σ H → Q' σ H) → gName i x σ H Q → gName i x σ H Q' := fun x σ H Q Q' h q => h _ _ q

section
variable {g : Gk} {W : WB} {σ : St} {Z : SetA} {env : Sls} {H : Hp} {X : Cx} {D : Ends}
theorem nox_some {α β : Type} {m : M α} {k : α → M β} {e : Sls} {P : R β → Prop} (hno : ¬ P .no) (h : P ((nox m).bind k e)) : ∃ a e1, m e = .ok a e1 ∧ P (k a e1) := by
  unfold M.bind nox at h
  cases q : m e with
  | er y e => rw [q] at h; exact (hno h).elim
  | no => rw [q] at h; exact (hno h).elim
  | ok a e1 => rw [q] at h; exact ⟨a, e1, rfl, h⟩
/-- a comprehension as the rule reads it -/
theorem rd_lc {S : M (List T)} {b : T → M Unit} {C : M Bool} {E : M Vw} {vs : List Nat} {t : TG} {tg : Expr} {Q : VK} {X' : Cx} (hK : X'.K = X.K) (hG : X'.g = X.g) (hg : XG X' tg b t) (hw : Wp t vs) (hm : ∀ x σ H Q Q', (∀ σ H, Q σ H → Q' σ H) → t x σ H Q → t x σ H Q')
    (h : tE X.g W (mLc S b C E vs) σ H Q) : tLc (tI X.g W S) t (tT X.g (WF W) C) (tE X.g (WF W) E) vs σ H Q := by
  have hok := @XG.ok X' tg b t hg
  rw [hK, hG] at hok
  obtain ⟨Z, env0, rE, h⟩ := h
  refine ⟨Z, env0, rE, (Out.bind0 rE h).mono fun J H1 ⟨Z1, env1, ts, p1, k1, ⟨inv, sr, hinv⟩, c1⟩ => ?_⟩
  intro D hD
  split at c1
  case isFalse => exact c1.elim
  rename_i hcl
  have hc := clear_ok hcl
  -- the new list, hidden; the comprehension's own slots forgotten
  have pD := Post.hide (u := .lst []) p1.rep hD
  have hlen := rE.len
  have hswap : ∀ {Z' : SetA} {e : Sls} {s : St} {H' : Hp}, RepEnv (kb X.g W) Z' e s H' → (∀ i, i ∈ vs → ∀ x, e[i]? = some x → x = Sl.non) → wipe s vs = wipe σ vs → s.length = σ.length → Post (kb X.g W) Z' e s H' Z' e (wipe σ vs) H' := fun r q w l =>
    swap_post r q (fun i hi => by rw [← w, wipe_out hi]) (by rw [wipe_length, l])
  have p2 := (p1.trans pD).trans (hswap pD.rep hc rfl rfl)
  have hD0 : H D = none := p1.none hD
  refine ⟨fun i m H' => m = ts.length - i ∧ i ≤ ts.length ∧ ∃ env accT accV, Post (kb X.g W) Z env0 σ H (fun p => Z1 p ∨ p = D) env (wipe σ vs) H' ∧ (∀ i, i ∈ vs → ∀ x, env[i]? = some x → x = Sl.non) ∧ (∀ i, i ∉ vs → Full env0 i → Full env i) ∧
      H' D = some (.lst accV) ∧ RpL X.K (hid (fun p => Z1 p ∨ p = D) env (wipe σ vs) H') accV accT ∧ inv (hid (fun p => Z1 p ∨ p = D) env (wipe σ vs) H') H' ∧ Out X.g W (LE (kb X.g W) σ) σ Q Z env0 H (lcL b C E vs accT (ts.drop i) env),
    ⟨ts.length, by simp, Nat.zero_le _, env1, [], [], p2, hc, fun i _ f => k1 i f, upd_same, .nil, ?_, by simpa using c1⟩, ?_⟩
  · exact sr.mono hinv (fun q o e => (hswap pD.rep hc rfl rfl).same _ _ (pD.same _ _ e)) hid_le
  rintro i m H' ⟨rfl, hi, env, accT, accV, p, hcl', hk, hDl, hacc, hv, ho⟩
  by_cases hlt : i < ts.length
  · refine .inr ⟨sr.go hid_le hv hlt, fun H'' => i + 1 ≤ ts.length ∧ ∃ env accT accV, Post (kb X.g W) Z env0 σ H (fun p => Z1 p ∨ p = D) env (wipe σ vs) H'' ∧ (∀ i, i ∈ vs → ∀ x, env[i]? = some x → x = Sl.non) ∧ (∀ i, i ∉ vs → Full env0 i → Full env i) ∧
      H'' D = some (.lst accV) ∧ RpL X.K (hid (fun p => Z1 p ∨ p = D) env (wipe σ vs) H'') accV accT ∧ inv (hid (fun p => Z1 p ∨ p = D) env (wipe σ vs) H'') H'' ∧ Out X.g W (LE (kb X.g W) σ) σ Q Z env0 H (lcL b C E vs accT (ts.drop (i + 1)) env),
      fun H'' hN => ⟨ts.length - (i + 1), by omega, rfl, hN⟩, fun x H'' hy => ?_⟩
    obtain ⟨d, hd, sm, hx⟩ := sr.yld hid_le hv hy hlt
    have ed : ts.drop i = d :: ts.drop (i + 1) := by
      rw [List.drop_eq_getElem_cons hlt]
      have := List.getElem?_eq_getElem hlt
      rw [hd] at this
      injection this with this
      rw [this]
    rw [ed] at ho
    unfold lcL at ho
    obtain ⟨u, e1, q1, ho⟩ := nox_some (P := Out X.g W (LE (kb X.g W) σ) σ Q Z env0 H) (fun z => z) ho
    cases u
    obtain ⟨c, e2, q2, ho⟩ := nox_some (P := Out X.g W (LE (kb X.g W) σ) σ Q Z env0 H) (fun z => z) ho
    have pg := Post.grow p.rep sm
    have hxd : Rp X.K (hid (fun p => Z1 p ∨ p = D) env (wipe σ vs) H'') x d := hx _ pg.same fun q o z1 z2 => by
      refine hid_some.mpr ⟨fun hz => ?_, fun so => ?_, z2⟩
      · obtain ⟨o', e⟩ := p.rep.zd q hz
        rw [z1] at e; cases e
      · obtain ⟨o', e⟩ := p.rep.so_dom so
        rw [z1] at e; cases e
    have hz : ∀ {s : St}, wipe s vs = wipe σ vs → s.length = σ.length := fun {s} w => by
      have := congrArg List.length w
      rwa [wipe_length, wipe_length] at this
    have wW : wipe (wipe σ vs) vs = wipe σ vs := by
      apply List.ext_getElem?
      intro j
      by_cases q : j ∈ vs
      · have e1 : ∀ (σ : St) (vs : List Nat), j ∈ vs → (wipe σ vs)[j]? = if j < σ.length then some none else none := by
          intro σ vs
          induction vs with
          | nil => intro h; cases h
          | cons v vs ih =>
            intro h
            unfold wipe
            rw [List.getElem?_set, wipe_length]
            by_cases z : v = j
            · simp [z]
            · rw [if_neg z]
              exact ih ((List.mem_cons.mp h).resolve_left fun y => z y.symm)
        rw [e1 _ _ q, e1 _ _ q, wipe_length]
      · rw [wipe_out q]
    refine hm _ _ _ _ _ ?_ (hw _ _ _ _ (hok pg.rep hxd q1 (Q := fun s h => h = H'' ∧ Post (kb X.g W) (fun p => Z1 p ∨ p = D) env (wipe σ vs) H'' (fun p => Z1 p ∨ p = D) e1 s H'') fun s ps => ⟨rfl, ps⟩))
    rintro s2 H2 ⟨⟨rfl, ps⟩, ws⟩
    rw [wW] at ws
    refine ⟨ws, (fun p => Z1 p ∨ p = D), e1, ps.rep, ?_⟩
    rw [q2]
    intro bb H3 Z3 p3 k3 l3
    have ec : c = bb := l3
    subst ec
    have t3 := ((pg.trans ps).trans p3).lessZ
    -- the turn's end: what was bound is forgotten
    have fin : ∀ {e : Sls} {H5 : Hp} {accT' : List T} {accV' : List V}, Post (kb X.g W) Z env0 σ H (fun p => Z1 p ∨ p = D) e s2 H5 → Same (hid (fun p => Z1 p ∨ p = D) env (wipe σ vs) H') (hid (fun p => Z1 p ∨ p = D) e s2 H5) → Kp e1 e → H5 D = some (.lst accV') → RpL X.K (hid (fun p => Z1 p ∨ p = D) e s2 H5) accV' accT' →
        Out X.g W (LE (kb X.g W) σ) σ Q Z env0 H (lcL b C E vs accT' (ts.drop (i + 1)) (wipeE e vs)) → i + 1 ≤ ts.length ∧ ∃ env accT accV, Post (kb X.g W) Z env0 σ H (fun p => Z1 p ∨ p = D) env (wipe σ vs) H5 ∧ (∀ i, i ∈ vs → ∀ x, env[i]? = some x → x = Sl.non) ∧ (∀ i, i ∉ vs → Full env0 i → Full env i) ∧
      H5 D = some (.lst accV) ∧ RpL X.K (hid (fun p => Z1 p ∨ p = D) env (wipe σ vs) H5) accV accT ∧ inv (hid (fun p => Z1 p ∨ p = D) env (wipe σ vs) H5) H5 ∧ Out X.g W (LE (kb X.g W) σ) σ Q Z env0 H (lcL b C E vs accT (ts.drop (i + 1)) env) := by
      intro e H5 accT' accV' pe se ke hDe hae hoe
      have pw := wipe_post (vs := vs) pe.rep
      rw [ws] at pw
      refine ⟨hlt, wipeE e vs, accT', accV', pe.trans pw, fun i hi x e => wipeE_in hi e, fun j hj f => ?_, hDe, hae.mono pw.same, sr.mono hv (fun q o e => pw.same _ _ (se _ _ e)) hid_le, hoe⟩
      unfold Full
      rw [wipeE_out hj]
      exact ke j (hg.kp q1 j (hk j hj f))
    cases c with
    | false =>
      rw [if_neg Bool.false_ne_true] at ho
      rw [if_neg Bool.false_ne_true]
      have hDl3 : H3 D = some (.lst accV) := t3.fr D _ hDl fun so => p.rep.z_so (.inr rfl) so
      exact fin (p.trans t3) t3.same k3 hDl3 (hacc.mono t3.same) ho
    | true =>
      rw [if_pos rfl] at ho
      rw [if_pos rfl]
      obtain ⟨r, e3, q3, ho⟩ := nox_some (P := Out X.g W (LE (kb X.g W) σ) σ Q Z env0 H) (fun z => z) ho
      obtain ⟨u, e4, q4, ho⟩ := nox_some (P := Out X.g W (LE (kb X.g W) σ) σ Q Z env0 H) (fun z => z) ho
      split at ho
      case isFalse => exact ho.elim
      rename_i hsz
      refine ⟨(fun p => Z1 p ∨ p = D), e2, t3.rep, ?_⟩
      rw [q3]
      intro y H4 Z4 p4 k4 l4
      obtain ⟨p5, k5, s5⟩ := toT_ok p4.rep l4 q4
      have t5 := (t3.trans (p4.trans p5)).lessZ
      have hDl4 : H4 D = some (.lst accV) := t5.fr D _ hDl fun so => p.rep.z_so (.inr rfl) so
      have zD : ∀ q, (Z1 q ∨ q = D) → ∃ o, H3 q = some o := fun q hq => t3.rep.zd q hq
      have hy4 : Rp X.K (hid (fun p => Z1 p ∨ p = D) e4 s2 H4) y u := s5 _ p4.zs zD
      have hac4 : RpL X.K (hid (fun p => Z1 p ∨ p = D) e4 s2 H4) accV accT := hacc.mono t5.same
      refine ⟨accV, hDl4, by rw [hacc.length]; exact hsz, ?_⟩
      have hu := hid_updZ (Z := fun p => Z1 p ∨ p = D) (env := e4) (σ := s2) (H := H4) (D := D) (u := .lst (accV ++ [y])) (.inr rfl)
      exact fin ((p.trans t5).updZ (.inr rfl) hD0) (by rw [hu]; exact t5.same) (k3.trans (k4.trans k5)) upd_same (by rw [hu]; exact hac4.append (.cons hy4 .nil)) ho
  · refine .inl ⟨sr.stop hid_le hv (by omega), ?_⟩
    have : ts.drop i = [] := List.drop_eq_nil_of_le (by omega)
    rw [this] at ho
    unfold lcL at ho
    have pb := p.trans (swap_post (vs := vs) (σ1 := σ) p.rep hcl' (fun i hi => by rw [wipe_out hi]) (by rw [wipe_length]))
    refine ho (.ref D) H' (fun p => Z1 p ∨ p = D) pb (fun j f => ?_) ⟨D, rfl, hD0, .inr rfl, accV, hDl, hacc.mono (swap_post (vs := vs) (σ1 := σ) p.rep hcl' (fun i hi => by rw [wipe_out hi]) (by rw [wipe_length])).same⟩
    by_cases q : j ∈ vs
    · have : Full env0 j → Full env1 j := k1 j
      rcases k1 j f with ⟨o, e⟩ | ⟨t, e⟩
      · cases hc j q _ e
      · cases hc j q _ e
    · exact hk j q f

/-- [elt for tg in iter if ..] -/
theorem xlc {elt tg iter : Expr} {ifs : List Expr} {scope : Scope} {own : List (PySem.Str × Nat)} {pos : Pos} {S : M (List T)} {b : T → M Unit} {t : TG} {C : M Bool} {E : M Vw} (hc : X.calm = true) (hN : X.N.Nodup) (hi : XI X W tg iter S) (ok : BlkOk X.N X.env.scope scope own)
    (hg : ∀ (s : Shared) (H : Hp) (Cc : Addr) (cl : List (PySem.Str × Addr)) (fp : List Addr), XG (X.blk s H scope (compEnvC scope cl Cc X.env) fp) tg b t) (ht : ∀ (s : Shared) (H : Hp) (Cc : Addr) (cl : List (PySem.Str × Addr)) (fp : List Addr), PTs (X.blk s H scope (compEnvC scope cl Cc X.env) fp) ifs (tT X.g (WF W) C))
    (he : ∀ (s : Shared) (H : Hp) (Cc : Addr) (cl : List (PySem.Str × Addr)) (fp : List Addr), XE (X.blk s H scope (compEnvC scope cl Cc X.env) fp) (WF W) elt E) (hw : Wp t (own.map (·.2))) (hm : ∀ x σ H Q Q', (∀ σ H, Q σ H → Q' σ H) → t x σ H Q → t x σ H Q')
    (hs : ∀ x, foldedSetIterable iter X.env x = pure x := by intro _; rfl) : XE X W (.ListComp elt [⟨tg, iter, ifs, 0⟩] scope pos) (mLc S b C E (own.map (·.2))) :=
  (pe_lc hc hN hi ok (fun s H Cc cl fp => (hg s H Cc cl fp).pg) ht (fun s H Cc cl fp => he s H Cc cl fp) hs).weak fun σ H Q h => rd_lc (X' := X.blk X.s_0 X.H_0 scope (compEnvC scope [] 0 X.env) []) rfl rfl (hg X.s_0 X.H_0 0 [] []) hw hm h

/-- name = [..] -/
theorem xsetlc {W : WB} {i : Nat} {y : PySem.Str} {py : Pos} {elt tg iter : Expr} {ifs : List Expr} {scope : Scope} {own : List (PySem.Str × Nat)} {pos spos : Pos} {S : M (List T)} {b : T → M Unit} {t : TG} {C : M Bool} {E : M Vw} (hc : X.calm = true) (hN : X.N.Nodup)
    (hy : X.N[i]? = some y) (hyl : X.env.scope.names.lookup y = some .local) (hsw : swapsWith (.ListComp elt [⟨tg, iter, ifs, 0⟩] scope pos) (some (.Name y py)) spos.line X.env = pure true) (hi : XI X W tg iter S) (ok : BlkOk X.N X.env.scope scope own)
    (hg : ∀ (s : Shared) (H : Hp) (Cc : Addr) (cl : List (PySem.Str × Addr)) (fp : List Addr), XG (X.blk s H scope (compEnvC scope cl Cc X.env) fp) tg b t) (ht : ∀ (s : Shared) (H : Hp) (Cc : Addr) (cl : List (PySem.Str × Addr)) (fp : List Addr), PTs (X.blk s H scope (compEnvC scope cl Cc X.env) fp) ifs (tT X.g (WF W) C))
    (he : ∀ (s : Shared) (H : Hp) (Cc : Addr) (cl : List (PySem.Str × Addr)) (fp : List Addr), XE (X.blk s H scope (compEnvC scope cl Cc X.env) fp) (WF W) elt E) (hw : Wp t (own.map (·.2))) (hm : ∀ x σ H Q Q', (∀ σ H, Q σ H → Q' σ H) → t x σ H Q → t x σ H Q')
    (hs : ∀ x, foldedSetIterable iter X.env x = pure x := by intro _; rfl) : XS X W (.Assign [.Name y py] (.ListComp elt [⟨tg, iter, ifs, 0⟩] scope pos) spos) (mSet i (mLc S b C E (own.map (·.2)))) :=
  (ps_setLc hc hN hy hyl hsw hi ok (fun s H Cc cl fp => (hg s H Cc cl fp).pg) ht (fun s H Cc cl fp => he s H Cc cl fp) hs).weak fun D σ H h =>
    rd_lc (W := W) (X' := X.blk X.s_0 X.H_0 scope (compEnvC scope [] 0 X.env) []) rfl rfl (hg X.s_0 X.H_0 0 [] []) hw hm (rd_set (g := X.g) h)
/-- the tests of a comprehension: none, one -/
theorem xcyes : PTs X [] (tT X.g W cYes) := ⟨fun pins s σ H Q I ⟨Z, env, rE, h⟩ => pts_nil.run pins s σ H Q I (h true H Z rE.post Kp.refl rfl)⟩
theorem xcone {c : Expr} {C : M Bool} (h : XT X W c C) : PTs X [c] (tT X.g W C) := pts_one h
end
end Ev
end P_Ev7

section P_Ev8
set_option Elab.async false
set_option linter.all false
set_option maxRecDepth 100000
/-! Ev8: objects that are changed, several targets at once, dict displays. -/
namespace Ev
open PySem L2 PySem.Spec
open PyProof.Rows hiding St
set_option autoImplicit false

section
variable {K : KB} {Z Z1 : SetA} {env env1 : Sls} {σ : St} {H H1 : Hp} {i : Nat} {o o' : Ob} {a : Addr}
/-- an owned object is written -/
theorem own_upd {u : HO} (rE : RepEnv K Z env σ H) (h : env[i]? = some (.own o)) (hs : σ[i]? = some (some (.ref a))) (hr : RepOb K (hid Z env σ H) (upd H a u) a o') :
    Post K Z env σ H Z (env.set i (.own o')) σ (upd H a u) ∧ Kp env (env.set i (.own o')) ∧ hid Z (env.set i (.own o')) σ (upd H a u) = hid Z env σ H := by
  have hi : i < env.length := (List.getElem?_eq_some_iff.mp h).1
  have soa : SO env σ a := ⟨i, o, h, hs⟩
  have sub : ∀ p, SO (env.set i (.own o')) σ p ↔ SO env σ p := fun p => by
    constructor
    · rintro ⟨j, w, h1, h2⟩
      by_cases e : i = j
      · subst e; exact ⟨i, o, h, h2⟩
      · rw [List.getElem?_set_ne e] at h1; exact ⟨j, w, h1, h2⟩
    · rintro ⟨j, w, h1, h2⟩
      by_cases e : i = j
      · subst e; exact ⟨i, o', List.getElem?_set_self hi, h2⟩
      · exact ⟨j, w, by rw [List.getElem?_set_ne e]; exact h1, h2⟩
  have hh : hid Z (env.set i (.own o')) σ (upd H a u) = hid Z env σ H := by
    funext p
    unfold hid
    by_cases e : p = a
    · subst e; rw [if_pos (.inr ((sub p).mpr soa)), if_pos (.inr soa)]
    · rw [upd_ne e]
      by_cases q : Z p ∨ SO env σ p
      · rw [if_pos (q.imp id (sub p).mpr), if_pos q]
      · rw [if_neg fun z => q (z.imp id (sub p).mp), if_neg q]
  have na : ¬ Z a := fun z => rE.z_so z soa
  refine ⟨⟨⟨by rw [List.length_set]; exact rE.len, fun j t e => ?_, fun j w e => ?_, fun j k w1 w2 b e1 e2 e3 e4 => ?_, fun p hp => ?_⟩, fun p w e n => ?_, fun p w e => ?_, fun p e => .inl ((sub p).mp e), fun _ e => e, fun _ e => .inl e⟩, fun j f => ?_, hh⟩
  · rw [hh]
    by_cases ej : i = j
    · subst ej; rw [List.getElem?_set_self hi] at e; cases e
    · rw [List.getElem?_set_ne ej] at e; exact rE.v j t e
  · rw [hh]
    by_cases ej : i = j
    · subst ej
      rw [List.getElem?_set_self hi] at e
      injection e with e; injection e with e; subst e
      exact ⟨a, hs, na, hr⟩
    · rw [List.getElem?_set_ne ej] at e
      obtain ⟨b, h1, h2, h3⟩ := rE.own j w e
      refine ⟨b, h1, h2, h3.mono (fun _ _ e => e) fun v ev => ?_⟩
      rw [upd_ne (fun z => ej (rE.inj i j o w a h e hs (by rw [← z]; exact h1)))]
      exact ev
  · have key : ∀ k w, (env.set i (.own o'))[k]? = some (Sl.own w) → ∃ w' : Ob, env[k]? = some (Sl.own w') := fun k w e => by
      by_cases ek : i = k
      · subst ek; exact ⟨o, h⟩
      · rw [List.getElem?_set_ne ek] at e; exact ⟨w, e⟩
    obtain ⟨w1', e1'⟩ := key j w1 e1
    obtain ⟨w2', e2'⟩ := key k w2 e2
    exact rE.inj j k w1' w2' b e1' e2' e3 e4
  · by_cases e : p = a
    · subst e; exact (na hp).elim
    · rw [upd_ne e]; exact rE.zd p hp
  · rw [upd_ne (fun z => n (by rw [z]; exact soa))]; exact e
  · by_cases q : p = a
    · subst q; exact ⟨u, upd_same⟩
    · exact ⟨w, by rw [upd_ne q]; exact e⟩
  · by_cases ej : i = j
    · subst ej; exact .inl ⟨o', List.getElem?_set_self hi⟩
    · unfold Full; rw [List.getElem?_set_ne ej]; exact f
end
/-- what becomes of an owned object, and what comes out -/
def modE (i : Nat) (f : Ob → Option (Ob × T)) : M Vw := fun e => match e[i]? with
  | some (.own o) => match f o with
    | some (o', t) => .ok (.v t) (e.set i (.own o'))
    | none => .no
  | _ => .no
def obT : Ob → String
  | .tg _ o => obT o
  | .lst _ => "list"
  | .dct _ => "dict"
/-- the slot owns an object of this type -/
def chk (i : Nat) (Ty : String) : M Unit := fun e => match e[i]? with
  | some (.own o) => if obT o = Ty then .ok () e else .no
  | _ => .no
theorem chk_some {β : Type} {i : Nat} {Ty : String} {k : Unit → M β} {env : Sls} {P : R β → Prop} (hno : ¬ P .no) (h : P ((chk i Ty).bind k env)) : ∃ o, env[i]? = some (.own o) ∧ obT o = Ty ∧ P (k () env) := by
  have e : (chk i Ty).bind k env = (chk i Ty env).bind k := rfl
  rw [e] at h
  unfold chk at h
  cases q : env[i]? with
  | none => rw [q] at h; exact (hno h).elim
  | some s =>
    rw [q] at h
    cases s with
    | own o =>
      simp only at h
      by_cases z : obT o = Ty
      · rw [if_pos z] at h; exact ⟨o, rfl, z, h⟩
      · rw [if_neg z] at h; exact (hno h).elim
    | _ => exact (hno h).elim
/-- beneath what was lent -/
def lift (f : Ob → Option (Ob × T)) : Ob → Option (Ob × T)
  | .tg j o => (lift f o).map fun w => (.tg j w.1, w.2)
  | o => f o
def liftO (f : Ob → Option Ob) : Ob → Option Ob
  | .tg j o => (liftO f o).map fun w => .tg j w
  | o => f o
def liftG {α : Type} (f : Ob → Option α) : Ob → Option α
  | .tg _ o => liftG f o
  | o => f o
/-- x.m(..), x a slot that owns an object -/
def mMeth (i : Nat) (Ty : String) (f : List T → Ob → Option (Ob × T)) (A : M (List Vw)) : M Vw := (chk i Ty).bind fun _ => A.bind fun rs => (toTs rs).bind fun ts => modE i (lift (f ts))
/-- a method's rule by the objects -/
def MeS (K : KB) (r : V → List V → Hp → VK → Prop) (f : List T → Ob → Option (Ob × T)) : Prop :=
  ∀ {G H : Hp} {a : Addr} {o o' : Ob} {xs : List V} {ts : List T} {t : T} {Q : VK}, Same G H → RepOb K G H a o → RpL K G xs ts → f ts o = some (o', t) → (∀ u z, RepOb K G (upd H a u) a o' → Rp K G z t → Q z (upd H a u)) → r (.ref a) xs H Q
theorem RepOb.ty {K : KB} {G H : Hp} {a : Addr} {Ty : String} : ∀ {o : Ob}, RepOb K G H a o → obT o = Ty → tyV K Ty (.ref a) H
  | .lst ts, ⟨vs, h1, _⟩, e => .inl ⟨e.symm, _, .of h1⟩
  | .dct kvs, ⟨vs, h1, _⟩, e => .inr (.inr (.inl ⟨e.symm, .inl ⟨_, h1⟩⟩))
  | .tg j o, ⟨_, h⟩, e => RepOb.ty (o := o) h e
/-- .. beneath what was lent -/
theorem MeS.lift {K : KB} {r : V → List V → Hp → VK → Prop} {f : List T → Ob → Option (Ob × T)} (hs : MeS K r f) : ∀ {o : Ob} {G H : Hp} {a : Addr} {o' : Ob} {xs : List V} {ts : List T} {t : T} {Q : VK}, Same G H → RepOb K G H a o → RpL K G xs ts → lift (f ts) o = some (o', t) →
    (∀ u z, RepOb K G (upd H a u) a o' → Rp K G z t → Q z (upd H a u)) → r (.ref a) xs H Q
  | .lst us, _, _, _, _, _, _, _, _, sm, h, hx, e, k => hs sm h hx e k
  | .dct us, _, _, _, _, _, _, _, _, sm, h, hx, e, k => hs sm h hx e k
  | .tg j o, _, _, _, _, _, ts, _, _, sm, ⟨ha, h⟩, hx, e, k => by
    simp only [Ev.lift] at e
    cases q : Ev.lift (f ts) o with
    | none => rw [q] at e; cases e
    | some w =>
      rw [q] at e; cases e
      exact MeS.lift hs (o := o) sm h hx q fun u z h1 h2 => k u z ⟨ha, h1⟩ h2
section
variable {g : Gk} {W : WB} {σ : St} {Z : SetA} {env : Sls} {H : Hp} {X : Cx} {D : Ends}
/-- what stands behind a change of a slot's object -/
theorem rd_mod {Q : VK} {i : Nat} {f : Ob → Option (Ob × T)} {x : V} (rE : RepEnv (kb g W) Z env σ H) (hx : σ[i]? = some (some x)) (h : Out g W (LE (kb g W) σ) σ Q Z env H (modE i f env)) :
    ∃ a o o' t, x = .ref a ∧ RepOb (kb g W) (hid Z env σ H) H a o ∧ f o = some (o', t) ∧ ∀ u z, RepOb (kb g W) (hid Z env σ H) (upd H a u) a o' → Rp g.K (hid Z env σ H) z t → Q z (upd H a u) := by
  unfold modE at h
  cases e : env[i]? with
  | none => rw [e] at h; exact h.elim
  | some s =>
    rw [e] at h
    cases s with
    | own o =>
      simp only at h
      cases q : f o with
      | none => rw [q] at h; exact h.elim
      | some w =>
        obtain ⟨o', t⟩ := w
        rw [q] at h
        obtain ⟨a, h1, h2, h3⟩ := rE.own i o e
        rw [hx] at h1; injection h1 with h1; injection h1 with h1
        refine ⟨a, o, o', t, h1, h3, q, fun u z hr hz => ?_⟩
        obtain ⟨p, k, hh⟩ := own_upd rE e (by rw [hx, h1]) hr
        exact h z (upd H a u) Z p k (by show Rp _ _ _ _; rw [hh]; exact hz)
    | _ => exact h.elim
theorem rd_meth {i : Nat} {Ty : String} {r : V → List V → Hp → VK → Prop} {f : List T → Ob → Option (Ob × T)} (hs : MeS (kb g W) r f) {A : M (List Vw)} {Q : VK} (h : tE g W (mMeth i Ty f A) σ H Q) : tBM g.K Ty r (tE g W (mVar i)) (tA g W A) σ H Q := by
  obtain ⟨Z, env, rE, h⟩ := h
  obtain ⟨o, e, hty, h⟩ := chk_some (P := Out g W (LE (kb g W) σ) σ Q Z env H) (fun z => z) h
  obtain ⟨a, h1, h2, h3⟩ := rE.own i o e
  refine ⟨Z, env, rE, ?_⟩
  unfold mVar
  rw [e]
  intro x H1 Z1 p1 k1 l1
  have e1 : σ[i]? = some (some x) := l1.1
  rw [h1] at e1; injection e1 with e1; injection e1 with e1; subst e1
  obtain ⟨a', q1, q2, q3⟩ := p1.rep.own i o e
  rw [h1] at q1; injection q1 with q1; injection q1 with q1; injection q1 with q1; subst q1
  refine ⟨q3.ty hty, Z1, env, p1.rep, ?_⟩
  have h' : Out g W (LE (kb g W) σ) σ Q Z1 env H1 ((A env).bind fun rs => (toTs rs).bind fun ts => modE i (lift (f ts))) := Out.ct.step p1 k1 h
  refine (Out.bind0 p1.rep h').mono fun xs H2 ⟨Z2, env2, rs, p2, k2, l2, c2⟩ => ?_
  obtain ⟨ts, env3, r3, p3, k3, m3, c3⟩ := Out.ct.plain p1.rep p2 k2 l2 c2
  obtain ⟨b, w, w', t, hb, s1, s2, s3⟩ := rd_mod r3 h1 c3
  injection hb with hb; subst hb
  exact hs.lift hid_le s1 m3 s2 fun u z => s3 u z
theorem rd_meth0 {i : Nat} {Ty : String} {r : V → List V → Hp → VK → Prop} {f : List T → Ob → Option (Ob × T)} (hs : MeS (kb g W) r f) {Q : VK} (h : tE g W (mMeth i Ty f mNil) σ H Q) : tBM0 g.K Ty r (tE g W (mVar i)) σ H Q := by
  obtain ⟨Z, env, rE, h⟩ := h
  obtain ⟨o, e, hty, h⟩ := chk_some (P := Out g W (LE (kb g W) σ) σ Q Z env H) (fun z => z) h
  obtain ⟨a, h1, h2, h3⟩ := rE.own i o e
  refine ⟨Z, env, rE, ?_⟩
  unfold mVar
  rw [e]
  intro x H1 Z1 p1 k1 l1
  have e1 : σ[i]? = some (some x) := l1.1
  rw [h1] at e1; injection e1 with e1; injection e1 with e1; subst e1
  obtain ⟨a', q1, q2, q3⟩ := p1.rep.own i o e
  rw [h1] at q1; injection q1 with q1; injection q1 with q1; injection q1 with q1; subst q1
  have h' : Out g W (LE (kb g W) σ) σ Q Z1 env H1 (modE i (lift (f [])) env) := Out.ct.step p1 k1 h
  obtain ⟨b, w, w', t, hb, s1, s2, s3⟩ := rd_mod p1.rep h1 h'
  injection hb with hb; subst hb
  exact ⟨q3.ty hty, hs.lift hid_le s1 .nil s2 fun u z => s3 u z⟩
section
variable {o e : Expr} {es : List Expr} {A : M (List Vw)} {name : PySem.Str} {apos cpos : Pos} {Ty id : String} {r : V → List V → Hp → VK → Prop} {i : Nat} {f : List T → Ob → Option (Ob × T)}
theorem xmeth {W : WB} (pa : PlainAttrs Ty) (slot : Slot Ty name id) (hty : typeOf (.builtin id) = pure (.type "method_descriptor")) (hm : MtR X id r) (hs : MeS (kb X.g W) r f) (ho : XE X W o (mVar i)) (ha : XA X W (e :: es) A)
    (hbase : attributeBase o name X.env (eval o X.env) = eval o X.env := by rfl)
    (hfew : ((backTo cpos (starEach (e :: es) X.env)).all (fun x => !x.1) && (backToKw cpos (keywordEach [] X.env)).all (fun x => x.1.isSome)
      && decide ((e :: es).length + ([] : List Keyword).length + (if ([] : List Keyword).isEmpty then 0 else 1) < 30)) = true := by rfl)
    (hline : (apos.endLine == cpos.line) = true := by rfl) (h1 : starEach (e :: es) X.env = (false, eval e X.env) :: starEach es X.env := by rfl) (hplain : (backTo cpos (starEach es X.env)).any (·.1) = false := by rfl) :
    XE X W (.Call (.Attribute o name apos) (e :: es) [] cpos) (mMeth i Ty f A) := (pe_bm pa slot hty hm ho ha hbase hfew hline h1 hplain).weak fun _ _ _ h => rd_meth (g := X.g) hs h
theorem xmeth0 {W : WB} (pa : PlainAttrs Ty) (slot : Slot Ty name id) (hty : typeOf (.builtin id) = pure (.type "method_descriptor")) (hm : MtR X id r) (hs : MeS (kb X.g W) r f) (ho : XE X W o (mVar i))
    (hbase : attributeBase o name X.env (eval o X.env) = eval o X.env := by rfl) (hline : (apos.endLine == cpos.line) = true := by rfl) : XE X W (.Call (.Attribute o name apos) [] [] cpos) (mMeth i Ty f mNil) :=
  (pe_bm0 pa slot hty hm ho hbase hline).weak fun _ _ _ h => rd_meth0 (g := X.g) hs h
end
def appF : List T → Ob → Option (Ob × T)
  | [t], .lst ts => if ts.length < sizeLine then some (.lst (ts ++ [t]), .none) else none
  | _, _ => none
theorem s_app {K : KB} : MeS K rAppend appF := by
  intro G H a o o' xs ts t Q sm ho hx e k
  unfold appF at e
  split at e
  · obtain ⟨vs, h1, h2⟩ := ho
    cases hx with
    | cons a1 r1 =>
      cases r1
      split at e
      · rename_i hz
        injection e with e; injection e with e1 e2; subst e1; subst e2
        exact ⟨_, _, _, rfl, rfl, h1, by rw [h2.length]; exact hz, k _ _ ⟨_, upd_same, h2.append (.cons a1 .nil)⟩ .non⟩
      · cases e
  · cases e
def popF : List T → Ob → Option (Ob × T)
  | [], .lst ts => (ts[ts.length - 1]?).map fun t => (.lst ts.dropLast, t)
  | _, _ => none
theorem RpL.dropLast {K : KB} {H : Hp} : ∀ {vs : List V} {ts : List T}, RpL K H vs ts → RpL K H vs.dropLast ts.dropLast
  | _, _, .nil => .nil
  | _, _, .cons _ .nil => .nil
  | _, _, .cons a (.cons b r) => .cons a (RpL.dropLast (.cons b r))
theorem s_pop {K : KB} : MeS K rPop popF := by
  intro G H a o o' xs ts t Q sm ho hx e k
  unfold popF at e
  split at e
  · cases hx
    obtain ⟨vs, h1, h2⟩ := ho
    rename_i us
    cases q : us[us.length - 1]? with
    | none => rw [q] at e; cases e
    | some u =>
      rw [q] at e; cases e
      obtain ⟨v, h3, h4⟩ := h2.get q
      exact ⟨_, _, v, rfl, rfl, h1, by rw [h2.length]; exact h3, k _ _ ⟨_, upd_same, h2.dropLast⟩ h4⟩
  · cases e

/-! ### stores -/
/-- x[k] = e, d[k] = e: value first, then the slot's object, then the key -/
def mStore (i : Nat) (Ty : String) (I A : M Vw) (f : T → T → Ob → Option Ob) : MS := A.bind fun r => (chk i Ty).bind fun _ => I.bind fun ri => (toT r).bind fun t => (lk ri).bind fun k => (modE i fun o => (liftO (f k t) o).map fun o' => (o', .none)).bind fun _ e => .ok .nx e
def setLF : T → T → Ob → Option Ob
  | .int k, t, .lst ts => (ixN ts.length k).map fun j => .lst (ts.set j t)
  | _, _, _ => none
def putDF (k t : T) : Ob → Option Ob
  | .dct kvs => match toKey k with
    | some kk => if kvs.length < sizeLine then some (.dct (putKT kvs kk t)) else none
    | none => none
  | _ => none
theorem _root_.Ev.Rp1.seen {K : KB} {G G' H : Hp} {v : V} {t : T} (h : Rp1 K G H v t) (e : Same G G') : Rp1 K G' H v t := by
  cases h with
  | non => exact .non
  | bl b => exact .bl b
  | int i => exact .int i
  | str x => exact .str x
  | lst a b => exact .lst a (b.mono e)
  | ro a b => exact .ro a (b.mono e)
  | tup a b => exact .tup (sqT_mono e a) (b.mono e)
  | dct a b => exact .dct a (b.mono e)
/-- a slot's object is looked at: where it stands -/
theorem rd_own {i : Nat} {o : Ob} {Q : VK} (rE : RepEnv (kb g W) Z env σ H) (e : env[i]? = some (.own o)) (h : ∀ a H1 Z1, Post (kb g W) Z env σ H Z1 env σ H1 → σ[i]? = some (some (.ref a)) → RepOb (kb g W) (hid Z1 env σ H1) H1 a o → Q (.ref a) H1) : tE g W (mVar i) σ H Q := by
  obtain ⟨a, h1, h2, h3⟩ := rE.own i o e
  refine ⟨Z, env, rE, ?_⟩
  unfold mVar
  rw [e]
  intro x H1 Z1 p1 k1 l1
  have e1 : σ[i]? = some (some x) := l1.1
  rw [h1] at e1; injection e1 with e1; injection e1 with e1; subst e1
  obtain ⟨a', q1, q2, q3⟩ := p1.rep.own i o e
  rw [h1] at q1; injection q1 with q1; injection q1 with q1; injection q1 with q1; subst q1
  exact h a H1 Z1 p1 h1 q3
/-- the pieces of a store -/
theorem rd_store {i : Nat} {Ty : String} {I A : M Vw} {f : T → T → Ob → Option Ob} {R : V → V → V → Hp → (Hp → Prop) → Prop}
    (hs : ∀ {G H : Hp} {a : Addr} {o o' : Ob} {x y : V} {k t : T} {Q : Hp → Prop}, Same G H → RepOb (kb g W) G H a o → Rp1 g.K G H y k → Rp g.K G x t → f k t o = some o' → (∀ u, RepOb (kb g W) G (upd H a u) a o' → Q (upd H a u)) → R (.ref a) y x H Q)
    (h : tS g W (mStore i Ty I A f) D σ H) : tE g W A σ H fun x H1 => tE g W (mVar i) σ H1 fun o H2 => tE g W I σ H2 fun y H3 => R o y x H3 fun H4 => D.nx σ H4 := by
  have hl : ∀ {o : Ob} {Z env} {H : Hp} {a : Addr} {o' : Ob} {x y : V} {k t : T} {Q : Hp → Prop}, RepOb (kb g W) (hid Z env σ H) H a o → Rp1 g.K (hid Z env σ H) H y k → Rp g.K (hid Z env σ H) x t → liftO (f k t) o = some o' → (∀ u, RepOb (kb g W) (hid Z env σ H) (upd H a u) a o' → Q (upd H a u)) → R (.ref a) y x H Q := by
    intro o
    induction o with
    | lst us => intro Z env H a o' x y k t Q h1 h2 h3 e q; exact hs hid_le h1 h2 h3 e q
    | dct us => intro Z env H a o' x y k t Q h1 h2 h3 e q; exact hs hid_le h1 h2 h3 e q
    | tg j o ih =>
      intro Z env H a o' x y k t Q h1 h2 h3 e q
      simp only [liftO] at e
      cases qe : liftO (f k t) o with
      | none => rw [qe] at e; cases e
      | some w => rw [qe] at e; cases e; exact ih h1.2 h2 h3 qe fun u hu => q u ⟨h1.1, hu⟩
  obtain ⟨Z, env, rE, h⟩ := h
  refine ⟨Z, env, rE, (FromS.ct.bind (C := FromS g W D σ Z env H) ⟨rE.post, h⟩).mono fun x H1 ⟨Z1, env1, r, p1, k1, l1, c1⟩ => ?_⟩
  obtain ⟨o, e, hty, c1⟩ := chk_some (P := FromS g W D σ Z env H Z1 env1 H1) (fun z => z.2) c1
  refine rd_own p1.rep e fun a H2 Z2 p2 ha hr => ⟨Z2, env1, p2.rep, (FromS.ct.bind (C := FromS g W D σ Z env H) (FromS.ct.step p2 Kp.refl c1)).mono fun y H3 ⟨Z3, env3, ri, p3, k3, l3, c3⟩ => ?_⟩
  obtain ⟨p3', c3⟩ := c3
  have l1' := (l1.step p1.rep p2 Kp.refl).step p2.rep p3 k3
  have h3 : OutS g W D σ Z env H ((toT r env3).bind fun t => (lk ri).bind fun k => (modE i fun o => (liftO (f k t) o).map fun o' => (o', T.none)).bind fun _ e => .ok .nx e) := c3
  cases q : toT r env3 with
  | er v e => exact (toT_er q).elim
  | no => rw [q] at h3; exact h3.elim
  | ok t env4 =>
    rw [q] at h3
    obtain ⟨p4, k4, s4⟩ := toT_ok p3.rep l1' q
    have p5 := (p3'.trans p4).lessZ
    have h4 : OutS g W D σ Z env H (((lk ri).bind fun k => (modE i fun o => (liftO (f k t) o).map fun o' => (o', T.none)).bind fun _ e => .ok .nx e) env4) := h3
    cases qk : look ri env4 with
    | none => rw [lk_none qk] at h4; exact h4.elim
    | some k =>
      rw [lk_some qk] at h4
      have hk := (l3.step p3.rep p4 k4).look1 p4.rep qk
      have hk' : Rp1 g.K (hid Z env4 σ H3) H3 y k := hk.seen (hid_lessZ p3'.zs)
      have hx' : Rp g.K (hid Z env4 σ H3) x t := s4 Z p3'.zs rE.zd
      have h5 : OutS g W D σ Z env H ((modE i (fun o => (liftO (f k t) o).map fun o' => (o', T.none)) env4).bind fun _ e => .ok .nx e) := h4
      unfold modE at h5
      cases qe : env4[i]? with
      | none => rw [qe] at h5; exact h5.elim
      | some s =>
        rw [qe] at h5
        cases s with
        | own o4 =>
          simp only at h5
          cases qf : liftO (f k t) o4 with
          | none => rw [qf] at h5; exact h5.elim
          | some o' =>
            rw [qf] at h5
            obtain ⟨a', w1, w2, w3⟩ := p5.rep.own i o4 qe
            rw [ha] at w1; injection w1 with w1; injection w1 with w1; injection w1 with w1; subst w1
            refine hl w3 hk' hx' qf fun u hu => ?_
            obtain ⟨p6, k6, _⟩ := own_upd p5.rep qe ha hu
            exact h5 σ _ Z (p5.trans p6)
        | _ => exact h5.elim
theorem s_setL {K : KB} {G H : Hp} {a : Addr} {o o' : Ob} {x y : V} {k t : T} {Q : Hp → Prop} (_ : Same G H) (h1 : RepOb K G H a o) (h2 : Rp1 K G H y k) (h3 : Rp K G x t) (e : setLF k t o = some o') (q : ∀ u, RepOb K G (upd H a u) a o' → Q (upd H a u)) : rSetL (.ref a) y x H Q := by
  cases h2 with
  | int i' =>
    cases o with
    | lst ts =>
      obtain ⟨vs, e1, e2⟩ := h1
      have e : (ixN ts.length i').map (fun j => Ob.lst (ts.set j t)) = some o' := e
      cases e3 : ixN ts.length i' with
      | none => rw [e3] at e; cases e
      | some j => rw [e3] at e; cases e; exact ⟨a, vs, i', j, rfl, rfl, e1, by rw [e2.length]; exact e3, q _ ⟨_, upd_same, RpL.set h3 j e2⟩⟩
    | dct kvs => cases e
    | tg j o => cases e
  | _ => cases o <;> cases e
theorem s_putD {K : KB} {G H : Hp} {a : Addr} {o o' : Ob} {x y : V} {k t : T} {Q : Hp → Prop} (_ : Same G H) (h1 : RepOb K G H a o) (h2 : Rp1 K G H y k) (h3 : Rp K G x t) (e : putDF k t o = some o') (q : ∀ u, RepOb K G (upd H a u) a o' → Q (upd H a u)) : ∃ a' H4, V.ref a = V.ref a' ∧ DPut H a' y x H4 ∧ Q H4 := by
  unfold putDF at e
  split at e
  · rename_i kvs
    split at e
    · rename_i kk hk
      split at e
      · rename_i hz
        injection e with e; subst e
        obtain ⟨vs, e1, e2⟩ := h1
        refine ⟨a, _, rfl, ?_, q _ ⟨_, upd_same, e2.put h3⟩⟩
        rw [toKey_rp h2 hk]
        exact DPut.k e1 (by rw [e2.length]; exact hz)
      · cases e
    · cases e
  · cases e
theorem xstl {W : WB} {i : Nat} {o ie e : Expr} {I A : M Vw} {pos pos' : Pos} (hg : PG X (.Subscript o ie pos') (gSub (tE X.g W (mVar i)) (tE X.g W I) rSetL)) (he : XE X W e A) (hs : swapsWithSole [.Subscript o ie pos'] e pos.line X.env = pure false := by rfl) (hw : swappedStores [.Subscript o ie pos'] e X.env = pure none := by rfl)
    (h1 : (assignEach [.Subscript o ie pos'] X.env).map (fun x => x.snd) = [assign (.Subscript o ie pos') X.env] := by rfl) : XS X W (.Assign [.Subscript o ie pos'] e pos) (mStore i "list" I A setLF) :=
  (ps_asg he hg hs hw h1).weak fun D σ H h => rd_store (g := X.g) (R := rSetL) s_setL h
theorem xdput {W : WB} {i : Nat} {o ie e : Expr} {I A : M Vw} {pos pos' : Pos} (hu : X.A.units + 1 < cLine) (ho : XE X W o (mVar i)) (hi : XE X W ie I) (he : XE X W e A) (hs : swapsWith e (some (.Subscript o ie pos')) pos.line X.env = pure false := by rfl) :
    XS X W (.Assign [.Subscript o ie pos'] e pos) (mStore i "dict" I A putDF) :=
  (ps_dput hu ho hi he hs).weak fun D σ H h => rd_store (g := X.g) (R := fun o y x H Q => ∃ a H4, o = .ref a ∧ DPut H a y x H4 ∧ Q H4) s_putD h

/-! ### d[k] op= e -/
def getD1 (k : T) : Ob → Option T
  | .dct kvs => match toKey k with
    | some kk => (kvs.find? fun kv => decide (kv.1 = kk)).map (·.2)
    | none => none
  | _ => none
/-- the slot's object, seen through a function -/
def getE (i : Nat) (f : Ob → Option T) : M T := fun e => match e[i]? with
  | some (.own o) => match f o with
    | some t => .ok t e
    | none => .no
  | _ => .no
theorem getE_some {β : Type} {i : Nat} {f : Ob → Option T} {k : T → M β} {env : Sls} {P : R β → Prop} (hno : ¬ P .no) (h : P ((getE i f).bind k env)) : ∃ o t, env[i]? = some (.own o) ∧ f o = some t ∧ P (k t env) := by
  have e : (getE i f).bind k env = (getE i f env).bind k := rfl
  rw [e] at h
  unfold getE at h
  cases q : env[i]? with
  | none => rw [q] at h; exact (hno h).elim
  | some s =>
    rw [q] at h
    cases s with
    | own o =>
      simp only at h
      cases z : f o with
      | none => rw [z] at h; exact (hno h).elim
      | some t => rw [z] at h; exact ⟨o, t, rfl, z, h⟩
    | _ => exact (hno h).elim
theorem lk_only {β : Type} {r : Vw} {k : T → M β} {env : Sls} {P : R β → Prop} (hno : ¬ P .no) (h : P ((lk r).bind k env)) : ∃ t, look r env = some t ∧ P (k t env) := by
  cases q : look r env with
  | none => rw [lk_none q] at h; exact (hno h).elim
  | some t => rw [lk_some q] at h; exact ⟨t, rfl, h⟩
def setO (i : Nat) (f : Ob → Option Ob) : MS := (modE i fun o => (liftO f o).map fun o' => (o', .none)).bind fun _ e => .ok .nx e
theorem find_kv {K : KB} {G : Hp} {k : Key} : ∀ {vs : List (Key × V)} {ts : List (Key × T)} {t : T}, KvR K G vs ts → (ts.find? fun kv => decide (kv.1 = k)).map (·.2) = some t → ∃ v, valV vs k = some v ∧ Rp K G v t
  | _, _, _, .nil, e => by cases e
  | _, _, t, .cons (k := k') (v := v) (d := d) h r, e => by
    by_cases q : k' = k
    · subst q
      simp at e; subst e
      exact ⟨v, valV_pos rfl, h⟩
    · rw [List.find?_cons_of_neg (by simpa using q)] at e
      obtain ⟨v', h1, h2⟩ := find_kv r e
      exact ⟨v', by rw [valV_neg q]; exact h1, h2⟩
/-- the old value, then e, then the new one -/
def mDaug (i : Nat) (I A : M Vw) (f : T → T → Option Vw) : MS := (chk i "dict").bind fun _ => I.bind fun ri => (lk ri).bind fun k => (getE i (liftG (getD1 k))).bind fun old => A.bind fun r => (lk r).bind fun t => (lk ri).bind fun k' => match f old t, decide (toKey k' = toKey k) with
    | some (.v u), true => setO i (putDF k u)
    | _, _ => fun _ => .no
theorem rd_daug {i : Nat} {I A : M Vw} {f : T → T → Option Vw} {rd : R2} (hs : OpS (kb g W) rd f) (h : tS g W (mDaug i I A f) D σ H) : sDAug (tE g W (mVar i)) (tE g W I) (tE g W A) rd D σ H := by
  obtain ⟨Z, env, rE, h⟩ := h
  obtain ⟨o, e, hty, h⟩ := chk_some (P := OutS g W D σ Z env H) (fun z => z) h
  refine rd_own rE e fun a H1 Z1 p1 ha hr => ⟨Z1, env, p1.rep, (FromS.ct.bind (C := FromS g W D σ Z env H) ⟨p1, h⟩).mono fun y H2 ⟨Z2, env2, ri, p2, k2, l2, c2⟩ => ?_⟩
  obtain ⟨kt, ek, c2⟩ := lk_only (P := FromS g W D σ Z env H Z2 env2 H2) (fun z => z.2) c2
  obtain ⟨o2, old, e2, eg, c2⟩ := getE_some (P := FromS g W D σ Z env H Z2 env2 H2) (fun z => z.2) c2
  obtain ⟨a2, w1, w2, w3⟩ := p2.rep.own i o2 e2
  rw [ha] at w1; injection w1 with w1; injection w1 with w1; injection w1 with w1; subst w1
  have hk := l2.look1 p2.rep ek
  -- what was lent lies beneath
  have hget : ∀ {o : Ob} {G : Hp} {H : Hp} {t : T}, RepOb (kb g W) G H a o → liftG (getD1 kt) o = some t → ∃ kk vs v, toKey kt = some kk ∧ H a = some (.dK vs) ∧ valV vs kk = some v ∧ Rp g.K G v t := by
    intro o
    induction o with
    | lst us => intro G H t _ e; cases e
    | dct kvs =>
      intro G H t h e
      obtain ⟨vs, x1, x2⟩ := h
      have e : getD1 kt (.dct kvs) = some t := e
      unfold getD1 at e
      simp only at e
      split at e
      · rename_i kk hkk
        obtain ⟨v, v1, v2⟩ := find_kv x2 e
        exact ⟨kk, vs, v, hkk, x1, v1, v2⟩
      · cases e
    | tg j o ih => intro G H t h e; exact ih h.2 e
  have hput : ∀ {o : Ob} {G : Hp} {H : Hp} {u : T} {z : V} {o' : Ob} {kk : Key}, RepOb (kb g W) G H a o → toKey kt = some kk → Rp g.K G z u → liftO (putDF kt u) o = some o' → ∃ vs, H a = some (.dK vs) ∧ vs.length < sizeLine ∧ RepOb (kb g W) G (upd H a (.dK (putK vs kk z))) a o' := by
    intro o
    induction o with
    | lst us => intro G H u z o' kk _ _ _ e; cases e
    | dct kvs =>
      intro G H u z o' kk h hkt hu qp
      have qp : putDF kt u (.dct kvs) = some o' := qp
      unfold putDF at qp
      simp only [hkt] at qp
      split at qp
      · rename_i hsz
        injection qp with qp; subst qp
        obtain ⟨vs4, y1, y2⟩ := h
        exact ⟨vs4, y1, by rw [y2.length]; exact hsz, _, upd_same, y2.put hu⟩
      · cases qp
    | tg j o ih =>
      intro G H u z o' kk h hkt hu e
      simp only [liftO] at e
      cases qe : liftO (putDF kt u) o with
      | none => rw [qe] at e; cases e
      | some w =>
        rw [qe] at e; cases e
        obtain ⟨vs, e1, e2, e3⟩ := ih h.2 hkt hu qe
        exact ⟨vs, e1, e2, h.1, e3⟩
  obtain ⟨kk, vs, v, hkk, x1, v1, v2⟩ := hget w3 eg
  refine ⟨a, v, rfl, by rw [toKey_rp hk hkk, ← v1]; exact DGet.k x1, Z2, env2, p2.rep, (FromS.ct.bind c2).mono fun y2 H3 ⟨Z3, env3, r, p3, k3, l3, c3⟩ => ?_⟩
  obtain ⟨t, et, c3⟩ := lk_only (P := FromS g W D σ Z env H Z3 env3 H3) (fun z => z.2) c3
  obtain ⟨kt', ek', c3⟩ := lk_only (P := FromS g W D σ Z env H Z3 env3 H3) (fun z => z.2) c3
  obtain ⟨p3', c3⟩ := c3
  have hold : Rp g.K (hid Z3 env3 σ H3) v old := v2.mono p3.same
  have ht := l3.look1 p3.rep et
  cases qf : f old t with
  | none => rw [qf] at c3; exact c3.elim
  | some w =>
    rw [qf] at c3
    cases w with
    | v u =>
      cases qd : decide (toKey kt' = toKey kt) with
      | false => rw [qd] at c3; exact c3.elim
      | true =>
        rw [qd] at c3
        refine hs hid_le (hold.one hid_le) ht qf fun z H4 n => ?_
        obtain ⟨sm, hz⟩ := n
        have p4 := Post.grow p3.rep sm
        have c5 : OutS g W D σ Z env H ((modE i (fun o => (liftO (putDF kt u) o).map fun o' => (o', T.none)) env3).bind fun _ e => .ok .nx e) := c3
        unfold modE at c5
        cases qe : env3[i]? with
        | none => rw [qe] at c5; exact c5.elim
        | some s =>
          rw [qe] at c5
          cases s with
          | own o4 =>
            simp only at c5
            cases qp : liftO (putDF kt u) o4 with
            | none => rw [qp] at c5; exact c5.elim
            | some o' =>
              rw [qp] at c5
              obtain ⟨a', w1, w2, w3⟩ := p4.rep.own i o4 qe
              rw [ha] at w1; injection w1 with w1; injection w1 with w1; injection w1 with w1; subst w1
              have hu : Rp g.K (hid Z3 env3 σ H4) z u := hz _ p4.same fun q o z1 z2 => by
                refine hid_some.mpr ⟨fun hz => ?_, fun so => ?_, z2⟩
                · obtain ⟨o', e⟩ := p3.rep.zd q hz
                  rw [z1] at e; cases e
                · obtain ⟨o', e⟩ := p3.rep.so_dom so
                  rw [z1] at e; cases e
              obtain ⟨vs4, y1, y2, y3⟩ := hput w3 hkk hu qp
              obtain ⟨p6, k6, _⟩ := own_upd p4.rep qe ha y3
              refine ⟨_, ?_, c5 σ _ Z (((p3'.trans p4).trans p6).lessZ)⟩
              rw [toKey_rp hk hkk]
              exact DPut.k y1 y2
          | _ => exact c5.elim
    | _ => exact c3.elim
theorem xdaug {W : WB} {i : Nat} {op : Operator} {rd : R2} {f : T → T → Option Vw} {o ie e : Expr} {I A : M Vw} {tpos pos : Pos} (hu : X.A.units + 1 < cLine) (ho : XE X W o (mVar i)) (hi : XE X W ie I) (he : XE X W e A) (hop : InOp X op rd) (hs : OpS (kb X.g W) rd f)
    (ha : ∀ ov iv new, augStore ie ov iv new = (do holding [new, ov, iv] (setItem ov iv new); release [new, ov, iv] []; pure .next)) : XS X W (.AugAssign (.Subscript o ie tpos) op e pos) (mDaug i I A f) :=
  (ps_daug hu ho hi he hop ha).weak fun D σ H h => rd_daug (g := X.g) hs h

/-! ### name op= e -/
def mAug (i : Nat) (f : T → T → Option Vw) (A : M Vw) : MS := (mVar i).bind fun r => A.bind fun s => (lk r).bind fun a => (lk s).bind fun b => (opt (f a b)).bind fun w => (put i w).bind fun _ e => .ok .nx e
end
end Ev
end P_Ev8

section P_Ev9
set_option Elab.async false
set_option linter.all false
set_option maxRecDepth 100000
/-! Ev9: several targets at once, name op= e, dict displays. -/
namespace Ev
open PySem L2 PySem.Spec
open PyProof.Rows hiding St
set_option autoImplicit false

/-! ### several new values stored -/
def stab (r : Vw) : M Vw := match r with
  | .sl i => (toT (.sl i)).bind fun t e => .ok (.v t) e
  | r => fun e => .ok r e
def stabs : List Vw → M (List Vw)
  | [] => fun e => .ok [] e
  | r :: rs => (stab r).bind fun r => (stabs rs).bind fun rs e => .ok (r :: rs) e
def puts : List Nat → List Vw → M Unit
  | [], [] => fun e => .ok () e
  | i :: is, r :: rs => (put i r).bind fun _ => puts is rs
  | _, _ => fun _ => .no
def mPar (is : List Nat) (A : M (List Vw)) : MS := A.bind fun rs => (stabs rs).bind fun rs => (puts is rs).bind fun _ e => .ok .nx e
def noSl : Vw → Prop
  | .sl _ => False
  | _ => True
def FrAt (r : Vw) (x : V) (a : Addr) : Prop := ∃ o, r = .fr o ∧ x = V.ref a
def setAll (σ : St) : List Nat → List V → St
  | i :: is, x :: xs => setAll (σ.set i (some x)) is xs
  | _, _ => σ
section
variable {K : KB} {Z Z1 : SetA} {env env1 env2 : Sls} {σ : St} {H0 H H1 : Hp} {r : Vw} {x : V}
theorem stab_ok (rE : RepEnv K Z1 env σ H) (l : RR K Z1 env σ H0 H r x) {r' : Vw} (e : stab r env = .ok r' env2) : Post K Z1 env σ H Z1 env2 σ H ∧ Kp env env2 ∧ RR K Z1 env2 σ H0 H r' x ∧ noSl r' ∧ ∀ a, FrAt r' x a → FrAt r x a := by
  cases r with
  | v t => injection e with e1 e2; subst e1; subst e2; exact ⟨rE.post, Kp.refl, l, trivial, fun _ h => h⟩
  | fr o => injection e with e1 e2; subst e1; subst e2; exact ⟨rE.post, Kp.refl, l, trivial, fun _ h => h⟩
  | sl i =>
    unfold stab M.bind at e
    simp only at e
    cases q : toT (.sl i) env with
    | er y e => exact (toT_er q).elim
    | no => rw [q] at e; cases e
    | ok t env3 =>
      rw [q] at e
      injection e with e1 e2; subst e1; subst e2
      -- a slot's thing, let go, is seen under the same hidden cells
      obtain ⟨h1, h2 | h2⟩ := l
      · obtain ⟨o, h2⟩ := h2
        simp only [toT, h2] at q
        injection q with q1 q2; subst q1; subst q2
        obtain ⟨p, k, a, h3, h4⟩ := freeze rE h2
        rw [h1] at h3; injection h3 with h3; injection h3 with h3; subst h3
        exact ⟨p, k, h4, trivial, fun a ⟨o, e, _⟩ => by cases e⟩
      · obtain ⟨u, h2⟩ := h2
        simp only [toT, h2] at q
        injection q with q1 q2; subst q1; subst q2
        obtain ⟨y, h3, h4⟩ := rE.v i u h2
        rw [h1] at h3; injection h3 with h3; injection h3 with h3; subst h3
        exact ⟨rE.post, Kp.refl, h4, trivial, fun a ⟨o, e, _⟩ => by cases e⟩
theorem stab_er {y : Exc} : stab r env ≠ .er y env2 := by
  intro e
  cases r with
  | v t => cases e
  | fr o => cases e
  | sl i =>
    unfold stab M.bind at e
    simp only at e
    cases q : toT (.sl i) env with
    | er y e => exact (toT_er q).elim
    | no => rw [q] at e; cases e
    | ok t env3 => rw [q] at e; cases e
theorem stabs_ok : ∀ {rs rs' : List Vw} {xs : List V} {env env2 : Sls}, RepEnv K Z1 env σ H → RRs K Z1 env σ H0 H rs xs → stabs rs env = .ok rs' env2 →
    Post K Z1 env σ H Z1 env2 σ H ∧ Kp env env2 ∧ RRs K Z1 env2 σ H0 H rs' xs ∧ (∀ r, r ∈ rs' → noSl r) ∧ ∀ a, NoFr a rs xs → NoFr a rs' xs
  | [], _, _, _, _, rE, l, e => by
    cases l
    injection e with e1 e2; subst e1; subst e2
    exact ⟨rE.post, Kp.refl, .nil, (fun _ h => by cases h), fun _ h => h⟩
  | r :: rs, _, _, env, _, rE, l, e => by
    cases l with
    | cons l1 l2 l3 =>
      simp only [stabs, M.bind] at e
      cases q1 : stab r env with
      | er y e => exact (stab_er q1).elim
      | no => rw [q1] at e; cases e
      | ok r' env1 =>
        rw [q1] at e
        simp only [R.bind, M.bind] at e
        obtain ⟨p1, k1, m1, n1, f1⟩ := stab_ok rE l1 q1
        cases q2 : stabs rs env1 with
        | er y e2 => rw [q2] at e; cases e
        | no => rw [q2] at e; cases e
        | ok rs' env3 =>
          rw [q2] at e
          injection e with e1 e2; subst e1; subst e2
          obtain ⟨p2, k2, m2, n2, f2⟩ := stabs_ok p1.rep (l2.step rE p1 k1) q2
          refine ⟨p1.trans p2, k1.trans k2, .cons (m1.step p1.rep p2 k2) m2 fun o a e1 e2 => ?_, fun r h => ?_, fun a hn k o e f => ?_⟩
          · obtain ⟨o', e3, _⟩ := f1 a ⟨o, e1, e2⟩
            exact f2 a (l3 o' a e3 e2)
          · rcases List.mem_cons.mp h with h | h
            · subst h; exact n1
            · exact n2 r h
          · cases k with
            | zero =>
              simp at e f
              obtain ⟨o', e3, _⟩ := f1 a ⟨o, e, f⟩
              exact hn 0 o' (by simp [e3]) (by simp [f])
            | succ k => exact f2 a (fun k o e f => hn (k + 1) o (by simpa using e) (by simpa using f)) k o (by simpa using e) (by simpa using f)
theorem stabs_er {y : Exc} : ∀ {rs : List Vw} {env env2 : Sls}, stabs rs env ≠ .er y env2
  | [], _, _, e => by cases e
  | r :: rs, env, _, e => by
    simp only [stabs, M.bind] at e
    cases q1 : stab r env with
    | er y e => exact (stab_er q1).elim
    | no => rw [q1] at e; cases e
    | ok r' env1 =>
      rw [q1] at e
      simp only [R.bind, M.bind] at e
      cases q2 : stabs rs env1 with
      | er y e => exact (stabs_er q2).elim
      | no => rw [q2] at e; cases e
      | ok rs' env3 => rw [q2] at e; cases e
/-- a state on the way: what the start says of it -/
structure Way (K : KB) (Z : SetA) (env0 : Sls) (σ0 : St) (H0 : Hp) (Z1 : SetA) (env : Sls) (σ : St) (H : Hp) : Prop where
  p : Post K Z env0 σ0 H0 Z1 env σ H
theorem put_step {i : Nat} (zd : ∀ p, Z p → ∃ o, H0 p = some o) {env0 : Sls} {σ0 : St} (p : Post K Z env0 σ0 H0 Z1 env σ H) (l : RR K Z1 env σ H0 H r x) (ns : noSl r) (e : put i r env = .ok () env2) :
    ∃ Z2, Post K Z env0 σ0 H0 Z2 env2 (σ.set i (some x)) H ∧ (∀ {r' x'}, RR K Z1 env σ H0 H r' x' → noSl r' → (∀ a, FrAt r x a → ¬ FrAt r' x' a) → RR K Z2 env2 (σ.set i (some x)) H0 H r' x') := by
  unfold put at e
  split at e
  case isFalse => cases e
  rename_i hi
  cases r with
  | v t =>
    injection e with _ e; subst e
    have ps := set_v p.rep hi l
    refine ⟨Z1, p.trans ps, fun {r' x'} l' n' _ => ?_⟩
    cases r' with
    | v t' => exact Rp.mono ps.same l'
    | fr o' => obtain ⟨a, e, h1, h2, h3⟩ := l'; exact ⟨a, e, h1, h2, h3.mono ps.same fun _ e => e⟩
    | sl j => exact n'.elim
  | fr o =>
    injection e with _ e; subst e
    obtain ⟨a, rfl, h1, h2, h3⟩ := l
    have na : ¬ (Z1 a ∧ a ≠ a) := fun z => z.2 rfl
    obtain ⟨r1, s1⟩ := set_own (Z := fun p => Z1 p ∧ p ≠ a) p.rep (fun _ z => z.1) na h2 hi h3
    have sm : Same (hid Z1 env σ H) (hid (fun p => Z1 p ∧ p ≠ a) (env.set i (.own o)) (σ.set i (some (.ref a))) H) := fun q u e => by
      obtain ⟨e1, e2, e3⟩ := hid_some.mp e
      refine hid_some.mpr ⟨fun z => e1 z.1, fun z => (s1 q z).elim e2 fun z => ?_, e3⟩
      subst z; exact e1 h2
    refine ⟨_, ⟨r1, p.fr, p.dom, fun q hq => (s1 q hq).elim (p.so q) fun z => .inr (by subst z; exact h1), fun q z => ⟨p.zs q z, fun e => ?_⟩, fun q z => p.zn q z.1⟩, fun {r' x'} l' n' nf => ?_⟩
    · subst e; obtain ⟨u, w⟩ := zd q z; rw [h1] at w; cases w
    · cases r' with
      | v t' => exact Rp.mono sm l'
      | fr o' =>
        obtain ⟨b, e, q1, q2, q3⟩ := l'
        exact ⟨b, e, q1, ⟨q2, fun z => nf a ⟨o, rfl, rfl⟩ ⟨o', rfl, by rw [e, z]⟩⟩, q3.mono sm fun _ e => e⟩
      | sl j => exact n'.elim
  | sl j => exact ns.elim
theorem RRs.get : ∀ {rs : List Vw} {xs : List V} {P : Vw → V → Prop}, RRs K Z1 env σ H0 H rs xs → (∀ r x, RR K Z1 env σ H0 H r x → P r x) → Paired (fun x r => P r x) xs rs
  | _, _, _, .nil, _ => .nil
  | _, _, _, .cons h r _, f => .cons (f _ _ h) (RRs.get r f)
theorem puts_ok (zd : ∀ p, Z p → ∃ o, H0 p = some o) {env0 : Sls} {σ0 : St} : ∀ {is : List Nat} {rs : List Vw} {xs : List V} {Z1 : SetA} {env env2 : Sls} {σ : St}, Post K Z env0 σ0 H0 Z1 env σ H → RRs K Z1 env σ H0 H rs xs → (∀ r, r ∈ rs → noSl r) → puts is rs env = .ok () env2 →
    ∃ Z2, Post K Z env0 σ0 H0 Z2 env2 (setAll σ is xs) H ∧ is.length = xs.length
  | [], [], _, Z1, _, _, _, p, l, _, e => by
    cases l
    injection e with _ e; subst e
    exact ⟨Z1, p, rfl⟩
  | [], _ :: _, _, _, _, _, _, _, _, _, e => by cases e
  | _ :: _, [], _, _, _, _, _, _, _, _, e => by cases e
  | i :: is, r :: rs, _, Z1, env, _, σ, p, l, ns, e => by
    cases l with
    | @cons _ x _ xs l1 l2 l3 =>
      simp only [puts, M.bind] at e
      cases q1 : put i r env with
      | er y e => exact (put_er q1).elim
      | no => rw [q1] at e; cases e
      | ok u env1 =>
        cases u
        rw [q1] at e
        have e' : puts is rs env1 = .ok () _ := e
        obtain ⟨Z2, p2, mv⟩ := put_step zd p l1 (ns r List.mem_cons_self) q1
        have key : ∀ {rs : List Vw} {xs : List V}, RRs K Z1 env σ H0 H rs xs → (∀ r, r ∈ rs → noSl r) → (∀ a, FrAt r x a → NoFr a rs xs) → RRs K Z2 env1 (σ.set i (some x)) H0 H rs xs := by
          intro rs xs l
          induction l with
          | nil => intro _ _; exact .nil
          | cons h _ n ih =>
            intro hs hf
            refine .cons (mv h (hs _ List.mem_cons_self) fun a fa ⟨o', e1, e2⟩ => hf a fa 0 o' (by simp [e1]) (by simp [e2])) (ih (fun r h => hs r (List.mem_cons_of_mem _ h)) fun a fa k o e f => hf a fa (k + 1) o (by simpa using e) (by simpa using f)) n
        obtain ⟨Z3, p3, hl⟩ := puts_ok zd p2 (key l2 (fun r h => ns r (List.mem_cons_of_mem _ h)) fun a ⟨o, e1, e2⟩ => l3 o a e1 e2) (fun r h => ns r (List.mem_cons_of_mem _ h)) e'
        exact ⟨Z3, p3, by rw [List.length_cons, List.length_cons, hl]⟩
theorem puts_er {y : Exc} : ∀ {is : List Nat} {rs : List Vw} {env env2 : Sls}, puts is rs env ≠ .er y env2
  | [], [], _, _, e => by cases e
  | [], _ :: _, _, _, e => by cases e
  | _ :: _, [], _, _, e => by cases e
  | i :: is, r :: rs, env, _, e => by
    simp only [puts, M.bind] at e
    cases q1 : put i r env with
    | er y e => exact (put_er q1).elim
    | no => rw [q1] at e; cases e
    | ok u env1 => rw [q1] at e; exact puts_er e
end
section
variable {g : Gk} {W : WB} {σ : St} {Z : SetA} {env : Sls} {H : Hp} {X : Cx} {D : Ends}
theorem rd_par {is : List Nat} {A : M (List Vw)} (h : tS g W (mPar is A) D σ H) : tA g W A σ H fun xs H1 => is.length = xs.length ∧ D.nx (setAll σ is xs) H1 := by
  obtain ⟨Z, env, rE, h⟩ := h
  refine ⟨Z, env, rE, (OutS.bind0 rE h).mono fun xs H1 ⟨Z1, env1, rs, p1, l1, c1⟩ => ?_⟩
  simp only [M.bind] at c1
  cases q : stabs rs env1 with
  | er y e => exact (stabs_er q).elim
  | no => rw [q] at c1; exact c1.elim
  | ok rs' env2 =>
    rw [q] at c1
    simp only [R.bind, M.bind] at c1
    obtain ⟨p2, k2, l2, n2, _⟩ := stabs_ok p1.rep l1 q
    cases q3 : puts is rs' env2 with
    | er y e => exact (puts_er q3).elim
    | no => rw [q3] at c1; exact c1.elim
    | ok u env3 =>
      cases u
      rw [q3] at c1
      obtain ⟨Z3, p3, hl⟩ := puts_ok rE.zd (p1.trans p2) l2 n2 q3
      exact ⟨hl, c1 _ H1 Z3 p3⟩
theorem xpar2 {W : WB} {i j : Nat} {x y : PySem.Str} {a b : Expr} {A : M (List Vw)} {px py pt pos : Pos} {kt k2 pt2} (hc : X.calm = true) (hN : X.N.Nodup) (hi : X.N[i]? = some x) (hj : X.N[j]? = some y) (hij : i ≠ j)
    (hx : X.env.scope.names.lookup x = some .local) (hy : X.env.scope.names.lookup y = some .local) (ha : XA X W [a, b] A)
    (hw : swappedStores [.Tuple [.Name x px, .Name y py] kt pt] (.Tuple [a, b] k2 pt2) X.env = pure (some [x, y]))
    (hs : swapsWithSole [.Tuple [.Name x px, .Name y py] kt pt] (.Tuple [a, b] k2 pt2) pos.line X.env = pure false := by rfl) : XS X W (.Assign [.Tuple [.Name x px, .Name y py] kt pt] (.Tuple [a, b] k2 pt2) pos) (mPar [i, j] A) :=
  (ps_par hc hN hi hj hij hx hy ha hw hs).weak fun D σ H h => by
    obtain ⟨Z, env, rE, h⟩ := rd_par (g := X.g) h
    exact ⟨Z, env, rE, h.mono fun xs H1 ⟨hl, q⟩ => match xs, hl, q with
      | [v, w], _, q => ⟨v, w, rfl, q⟩⟩
theorem xpar3 {W : WB} {i j l : Nat} {x y z : PySem.Str} {a b c : Expr} {A : M (List Vw)} {px py pz pt pos : Pos} {kt k2 pt2} (hc : X.calm = true) (hN : X.N.Nodup) (hi : X.N[i]? = some x) (hj : X.N[j]? = some y) (hl : X.N[l]? = some z) (hij : i ≠ j) (hil : i ≠ l) (hjl : j ≠ l)
    (hx : X.env.scope.names.lookup x = some .local) (hy : X.env.scope.names.lookup y = some .local) (hz : X.env.scope.names.lookup z = some .local) (ha : XA X W [a, b, c] A)
    (hw : swappedStores [.Tuple [.Name x px, .Name y py, .Name z pz] kt pt] (.Tuple [a, b, c] k2 pt2) X.env = pure (some [x, y, z]))
    (hs : swapsWithSole [.Tuple [.Name x px, .Name y py, .Name z pz] kt pt] (.Tuple [a, b, c] k2 pt2) pos.line X.env = pure false := by rfl) : XS X W (.Assign [.Tuple [.Name x px, .Name y py, .Name z pz] kt pt] (.Tuple [a, b, c] k2 pt2) pos) (mPar [i, j, l] A) :=
  (ps_par3 hc hN hi hj hl hij hil hjl hx hy hz ha hw hs).weak fun D σ H h => by
    obtain ⟨Z, env, rE, h⟩ := rd_par (g := X.g) h
    exact ⟨Z, env, rE, h.mono fun xs H1 ⟨hl, q⟩ => match xs, hl, q with
      | [u, v, w], _, q => ⟨u, v, w, rfl, q⟩⟩

/-! ### name op= e -/
theorem xaug {W : WB} {i : Nat} {x : PySem.Str} {e : Expr} {op : Operator} {r : R2} {f : T → T → Option Vw} {A : M Vw} {pos pos' : Pos} (hN : X.N.Nodup) (hi : X.N[i]? = some x) (hx : Loc X.env.scope x) (he : XE X W e A) (ho : PIp X op r) (hs : OpS (kb X.g W) r f)
    (hf : X.fn x = true ∨ X.env.scope.names.lookup x = some .local := by first | exact .inl rfl | exact .inr rfl | assumption) : XS X W (.AugAssign (.Name x pos') op e pos) (mAug i f A) :=
  (ps_aug hN hi hx he ho hf).weak fun D σ H ⟨Z, env, rE, h⟩ => by
    unfold mAug at h
    have hv : ∃ x0 r0, σ[i]? = some (some x0) ∧ mVar i env = .ok r0 env ∧ RR (kb X.g W) Z env σ H H r0 x0 := by
      have h' : OutS X.g W D σ Z env H ((mVar i env).bind _) := h
      unfold mVar at h' ⊢
      cases e : env[i]? with
      | none => rw [e] at h'; exact h'.elim
      | some s =>
        rw [e] at h'
        cases s with
        | non => exact h'.elim
        | own o =>
          obtain ⟨a, h1, _⟩ := rE.own i o e
          exact ⟨_, _, h1, rfl, h1, .inl ⟨o, e⟩⟩
        | v t =>
          obtain ⟨y, h1, h2⟩ := rE.v i t e
          exact ⟨_, _, h1, rfl, h2⟩
    obtain ⟨x0, r0, hx0, hm, l0⟩ := hv
    have h1 : OutS X.g W D σ Z env H ((A env).bind fun s => (lk r0).bind fun a => (lk s).bind fun b => (opt (f a b)).bind fun w => (put i w).bind fun _ e => .ok .nx e) := by
      have h' : OutS X.g W D σ Z env H ((mVar i env).bind _) := h
      rw [hm] at h'
      exact h'
    refine ⟨x0, hx0, Z, env, rE, (OutS.bind0 (L := LE (kb X.g W) σ) rE h1 |> fun q => (FromS.ct.bind (L := LE (kb X.g W) σ) (C := FromS X.g W D σ Z env H) ⟨rE.post, h1⟩)).mono fun y H1 ⟨Z1, env1, s, p1, k1, l1, c1⟩ => ?_⟩
    obtain ⟨a, ea, c1⟩ := lk_only (P := FromS X.g W D σ Z env H Z1 env1 H1) (fun z => z.2) c1
    obtain ⟨b, eb, c1⟩ := lk_only (P := FromS X.g W D σ Z env H Z1 env1 H1) (fun z => z.2) c1
    obtain ⟨_, c1⟩ := c1
    have l0' := l0.step rE p1 k1
    have c2 : OutS X.g W D σ Z env H (((opt (f a b)) env1).bind fun w => (put i w).bind fun _ e => .ok .nx e) := c1
    unfold opt at c2
    cases qf : f a b with
    | none => rw [qf] at c2; exact c2.elim
    | some w =>
      rw [qf] at c2
      refine hs hid_le (l0'.look1 p1.rep ea) (l1.look1 p1.rep eb) qf fun z H' n => ?_
      cases w with
      | sl j => exact n.elim
      | v t =>
        obtain ⟨sm, hz⟩ := n
        have p2 := Post.grow p1.rep sm
        have hzt : Rp X.K (hid Z1 env1 σ H') z t := hz _ p2.same fun q o z1 z2 => by
          refine hid_some.mpr ⟨fun hz => ?_, fun so => ?_, z2⟩
          · obtain ⟨o', e⟩ := p1.rep.zd q hz
            rw [z1] at e; cases e
          · obtain ⟨o', e⟩ := p1.rep.so_dom so
            rw [z1] at e; cases e
        have c3 : OutS X.g W D σ Z env H ((put i (.v t) env1).bind fun _ e => .ok .nx e) := c2
        cases q : put i (.v t) env1 with
        | er y e => exact (put_er q).elim
        | no => rw [q] at c3; exact c3.elim
        | ok u e2 =>
          rw [q] at c3
          cases u
          exact c3 _ H' Z (put_ok (r := .v t) (p1.trans p2) rE.zd hzt q)
      | fr o =>
        obtain ⟨sm, a', rfl, ha, hr⟩ := n
        have c3 : OutS X.g W D σ Z env H ((put i (.fr o) env1).bind fun _ e => .ok .nx e) := c2
        -- as a new thing, hidden
        have nso : ¬ SO env1 σ a' := fun so => by obtain ⟨o', e⟩ := p1.rep.so_dom so; rw [ha] at e; cases e
        have s1 : Same (hid Z1 env1 σ H1) (hid (fun p => Z1 p ∨ p = a') env1 σ H') := fun p o e => by
          obtain ⟨h1, h2, h3⟩ := hid_some.mp e
          refine hid_some.mpr ⟨fun z => z.elim h1 fun z => ?_, h2, sm _ _ h3⟩
          subst z; rw [ha] at h3; cases h3
        have rE1 := p1.rep
        have p2 : Post (kb X.g W) Z1 env1 σ H1 (fun p => Z1 p ∨ p = a') env1 σ H' := by
          refine ⟨⟨rE1.len, fun i t e => ?_, fun i o e => ?_, rE1.inj, fun p hz => ?_⟩, fun p o e _ => sm p o e, fun p o e => ⟨o, sm p o e⟩, fun _ e => .inl e, fun _ e => .inl e, fun p e => ?_⟩
          · obtain ⟨x, h1, h2⟩ := rE1.v i t e; exact ⟨x, h1, h2.mono s1⟩
          · obtain ⟨b, h1, h2, h3⟩ := rE1.own i o e
            refine ⟨b, h1, fun z => z.elim h2 fun z => ?_, h3.mono s1 fun u e => sm b u e⟩
            subst z; exact nso ⟨i, o, e, h1⟩
          · rcases hz with hz | rfl
            · obtain ⟨o, e⟩ := rE1.zd p hz; exact ⟨o, sm p o e⟩
            · exact hr.dom
          · rcases e with e | rfl
            · exact .inl e
            · exact .inr ha
        cases q : put i (.fr o) env1 with
        | er y e => exact (put_er q).elim
        | no => rw [q] at c3; exact c3.elim
        | ok u e2 =>
          rw [q] at c3
          cases u
          exact c3 _ H' Z (put_ok (r := .fr o) (p1.trans p2) rE.zd ⟨a', rfl, p1.none ha, .inr rfl, hr.mono s1 fun _ e => e⟩ q)

/-! ### {k: v, ..} -/
def mDct (ks : List Key) (A : M (List Vw)) : M Vw := A.bind fun rs => (toTs rs).bind fun ts => if ts.length = ks.length ∧ ks.length ≤ 15 then (fun e => .ok (.fr (.dct (mergeT [] (ks.zip ts)))) e) else fun _ => .no
structure XP (X : Cx) (W : WB) (pos : Pos) (keys : List (Option Expr)) (values : List Expr) (ks : List Key) (A : M (List Vw)) (trs : List (TE × TE)) : Prop where
  pp : PPs X pos keys values trs
  ok : ∀ σ H Q, tA X.g W A σ H (fun xs H' => xs.length = ks.length ∧ Q ((ks.zip xs).map fun kx => (kV kx.1, kx.2)) H') → tPairs trs σ H Q

theorem rd_cons {A : M Vw} {B : M (List Vw)} {Q} (h : tA g W (mCons A B) σ H Q) : tE g W A σ H fun x H1 => tA g W B σ H1 fun xs H2 => Q (x :: xs) H2 := by
  obtain ⟨Z, env, rE, h⟩ := h
  exact ⟨Z, env, rE, (From.ct.bind (Z := Z) (env := env) (H := H) (C := From g W (LA (kb g W) σ) σ Q Z env H) ⟨rE.post, Kp.refl, h⟩).mono fun x H1 ⟨Z1, env1, a, p1, k1, l1, c1⟩ =>
      ⟨Z1, env1, p1.rep, (From.ct.bind c1).mono fun xs H2 ⟨Z2, env2, b, p2, k2, l2, c2⟩ =>
        c2.2.2 (x :: xs) H2 Z2 (p1.trans p2) (k1.trans k2) (.cons (l1.step p1.rep p2 k2) (l2.start fun p => p1.none) (fun o a e1 e2 => nofr_of (by subst e1; subst e2; obtain ⟨b, e, _, _, h3⟩ := l1; injection e with e; subst e; exact h3.dom) l2))⟩⟩
theorem xpnil {W : WB} {pos : Pos} : XP X W pos [] [] [] mNil [] := ⟨pps_nil, fun σ H Q ⟨Z, env, rE, h⟩ => (h [] H Z rE.post Kp.refl .nil).2⟩
theorem xpcons {W : WB} {pos p2 : Pos} {k : PySem.Str} {j} {v : Expr} {keys : List (Option Expr)} {values : List Expr} {ks : List Key} {A : M Vw} {B : M (List Vw)} {trs : List (TE × TE)} (hv : XE X W v A) (hr : XP X W pos keys values ks B trs) :
    XP X W pos (some (.Constant (.str k) j p2) :: keys) (v :: values) (.inr k :: ks) (mCons A B) ((tC (.str k), tE X.g W A) :: trs) :=
  ⟨pps_cons pe_str hv hr.pp, fun σ H Q h => by
    obtain ⟨Z, env, rE, h⟩ := rd_cons (g := X.g) h
    refine ⟨Z, env, rE, h.mono fun x H1 q => hr.ok σ H1 _ ?_⟩
    obtain ⟨Z1, env1, r1, q⟩ := q
    exact ⟨Z1, env1, r1, q.mono fun xs H2 ⟨hl, q⟩ => ⟨by simpa using hl, q⟩⟩⟩
theorem Post.lessTo {K : KB} {Z Zt Z1 : SetA} {env env' : Sls} {σ σ' : St} {H H' : Hp} (p : Post K Z env σ H Z1 env' σ' H') (h1 : ∀ a, Z a → Zt a) (h2 : ∀ a, Zt a → Z1 a) : Post K Z env σ H Zt env' σ' H' :=
  ⟨p.rep.lessZ h2, p.fr, p.dom, p.so, h1, fun a z => p.zn a (h2 a z)⟩
theorem KvR.zip {K : KB} {G : Hp} : ∀ {ks : List Key} {xs : List V} {ts : List T}, RpL K G xs ts → KvR K G (ks.zip xs) (ks.zip ts)
  | [], _, _, _ => .nil
  | _ :: _, _, _, .nil => .nil
  | _ :: _, _, _, .cons h r => .cons h (KvR.zip r)
theorem KvR.merge {K : KB} {G : Hp} : ∀ {ms : List (Key × V)} {us : List (Key × T)} {vs : List (Key × V)} {ts : List (Key × T)}, KvR K G ms us → KvR K G vs ts → KvR K G (mergeK vs ms) (mergeT ts us)
  | _, _, _, _, .nil, s => s
  | _, _, _, _, .cons (k := k) h r, s => by have q := KvR.merge r (s.put (k := k) h); exact q
theorem xdct {W : WB} {pos : Pos} {keys : List (Option Expr)} {values : List Expr} {ks : List Key} {A : M (List Vw)} {trs : List (TE × TE)} (h : XP X W pos keys values ks A trs) (hall : keys.all (·.isSome) = true) (hl : keys.length = values.length) (h0 : keys ≠ []) (h15 : keys.length ≤ 15) :
    XE X W (.Dict keys values pos) (mDct ks A) :=
  (pe_disp h.pp hall hl h0 h15).weak fun σ H Q ⟨Z, env, rE, hh⟩ p hp => by
    have p2 := Post.hide (u := .dK []) rE hp
    refine h.ok _ _ _ ⟨_, env, p2.rep, (From.ct.bind (C := From X.g W (LE (kb X.g W) σ) σ Q Z env H) ⟨p2, Kp.refl, hh⟩).mono fun xs H1 ⟨Z1, env1, rs, p1, k1, l1, c1⟩ => ?_⟩
    obtain ⟨q1, q2, c1⟩ := c1
    simp only [M.bind] at c1
    cases q : toTs rs env1 with
    | er y e => exact (toTs_er q).elim
    | no => rw [q] at c1; exact c1.elim
    | ok ts env2 =>
      rw [q] at c1
      simp only [R.bind] at c1
      split at c1
      case isFalse => exact c1.elim
      rename_i hz
      obtain ⟨p3, k3, s3⟩ := toTs_ok p1.rep l1 q
      have hts := s3 (fun q => Z q ∨ q = p) p1.zs p2.rep.zd
      have hlen : xs.length = ks.length := by rw [hts.length]; exact hz.1
      have hp1 : H1 p = some (.dK []) := p1.fr p _ upd_same fun so => p2.rep.z_so (.inr rfl) so
      have pf := ((p2.trans p1).trans p3).lessTo (Zt := fun q => Z q ∨ q = p) (fun _ z => .inl z) p1.zs
      refine ⟨hlen, hp1, ks.zip xs, rfl, ?_, ?_⟩
      · rw [List.length_zip]; omega
      · have pu := pf.updZ (D := p) (u := .dK (mergeK [] (ks.zip xs))) (.inr rfl) hp
        refine c1 (.ref p) _ _ pu (q2.trans k3) ⟨p, rfl, hp, .inr rfl, _, upd_same, ?_⟩
        rw [hid_updZ (.inr rfl)]
        exact KvR.merge (KvR.zip hts) .nil
end
end Ev
end P_Ev9

section P_Ev10
set_option Elab.async false
set_option linter.all false
set_option maxRecDepth 100000
/-! Ev10: defs and their calls. -/
namespace Ev
open PySem L2 PySem.Spec
open PyProof.Rows hiding St
set_option autoImplicit false

abbrev Args := List Sl
inductive RF where
  | rt (r : Vw) (as : Args)
  | er (x : Exc) (as : Args)
  | no
/-- how names are called -/
abbrev CF := String → Args → RF
structure Fn where
  ps : List String
  n : Nat
  body : CF → MS
  /-- how it is called by keywords -/
  kws : List (List String × List Nat) := []
def strip : Ob → Ob
  | .tg _ o => strip o
  | o => o
def retag : Ob → Ob → Ob
  | .tg k o, o' => .tg k (retag o o')
  | _, o' => o'
def tagA : Nat → Args → Sls
  | _, [] => []
  | j, .own o :: r => .own (.tg j (strip o)) :: tagA (j + 1) r
  | j, s :: r => s :: tagA (j + 1) r
def enter (as : Args) (n : Nat) : Sls := tagA 0 as ++ List.replicate (n - as.length) .non
/-- what was lent comes back -/
def leave (e : Sls) : Nat → Args → Option Args
  | _, [] => some []
  | j, .own o :: r => match e[j]? with
    | some (.own (.tg k o')) => if k = j then (leave e (j + 1) r).map fun as => .own (retag o (strip o')) :: as else none
    | _ => none
  | j, s :: r => (leave e (j + 1) r).map fun as => s :: as
def retOf (r : Vw) (e : Sls) : Option Vw := match r with
  | .v t => some (.v t)
  | .fr o => some (.fr (strip o))
  | .sl i => match e[i]? with
    | some (.own (.tg _ _)) => none
    | some (.own o) => some (.fr o)
    | some (.v t) => some (.v t)
    | _ => none
def endOf (f : Fl) (e : Sls) : Option Vw := match f with
  | .nx => some (.v .none)
  | .rt r => retOf r e
  | _ => none
def finish (as : Args) : R Fl → RF
  | .ok f e => match endOf f e, leave e 0 as with
    | some r, some as' => .rt r as'
    | _, _ => .no
  | .er x e => match leave e 0 as with
    | some as' => .er x as'
    | none => .no
  | .no => .no
def runFn (c : Fn) (cf : CF) (as : Args) : RF := if as.length = c.ps.length then finish as (c.body cf (enter as c.n)) else .no
def callN (Γ : String → Option Fn) : Nat → CF
  | 0 => fun _ _ => .no
  | n + 1 => fun f as => match Γ f with
    | some c => runFn c (callN Γ n) as
    | none => .no
/-- a def's promise -/
def spF (g : Gk) (F : Args → RF) : Sp := fun vs H Q E => ∃ (Z : SetA) (as : Args) (β : Nat → Addr), RepEnv ⟨g.K, β⟩ Z as (vs.map some) H ∧ match F as with
  | .rt r as' => ∀ x H' Z', Post ⟨g.K, β⟩ Z as (vs.map some) H Z' as' (vs.map some) H' → RR ⟨g.K, β⟩ Z' as' (vs.map some) H H' r x → Q x H'
  | .er x as' => ∀ cls d H', Post ⟨g.K, β⟩ Z as (vs.map some) H Z as' (vs.map some) H' → RX g (hid Z as' (vs.map some) H') x cls d H' → E cls d H'
  | .no => False

/-! ### tags -/
section
variable {K K' : KB} {G G' H : Hp} {a : Addr}
theorem RepOb.strip (hK : K.K = K'.K) : ∀ {o : Ob}, RepOb K G H a o → RepOb K' G H a (Ev.strip o)
  | .lst ts, ⟨vs, h1, h2⟩ => ⟨vs, h1, hK ▸ h2⟩
  | .dct ts, ⟨vs, h1, h2⟩ => ⟨vs, h1, hK ▸ h2⟩
  | .tg j o, ⟨_, h⟩ => RepOb.strip hK (o := o) h
theorem RepOb.retag {H1 G1 : Hp} : ∀ {o o' : Ob}, RepOb K G1 H1 a o → RepOb K G H a o' → RepOb K G H a (Ev.retag o o')
  | .lst ts, _, _, h => h
  | .dct ts, _, _, h => h
  | .tg j o, o', ⟨h1, h2⟩, h => ⟨h1, RepOb.retag (o := o) h2 h⟩
end
theorem tagA_len : ∀ {j : Nat} {as : Args}, (tagA j as).length = as.length
  | _, [] => rfl
  | _, .own _ :: r => by simp only [tagA, List.length_cons, tagA_len]
  | _, .v _ :: r => by simp only [tagA, List.length_cons, tagA_len]
  | _, .non :: r => by simp only [tagA, List.length_cons, tagA_len]
theorem tagA_get : ∀ {k j : Nat} {as : Args}, (tagA k as)[j]? = (as[j]?).map fun s => match s with
    | .own o => .own (.tg (k + j) (strip o))
    | s => s
  | _, _, [] => rfl
  | k, 0, .own _ :: r => by simp [tagA]
  | k, 0, .v _ :: r => by simp [tagA]
  | k, 0, .non :: r => by simp [tagA]
  | k, j + 1, .own _ :: r => by
    simp only [tagA, List.getElem?_cons_succ]
    rw [tagA_get, show k + 1 + j = k + (j + 1) by omega]
  | k, j + 1, .v _ :: r => by
    simp only [tagA, List.getElem?_cons_succ]
    rw [tagA_get, show k + 1 + j = k + (j + 1) by omega]
  | k, j + 1, .non :: r => by
    simp only [tagA, List.getElem?_cons_succ]
    rw [tagA_get, show k + 1 + j = k + (j + 1) by omega]
theorem leave_len : ∀ {j : Nat} {as as' : Args} {e : Sls}, leave e j as = some as' → as'.length = as.length
  | _, [], _, _, h => by injection h with h; subst h; rfl
  | j, .own o :: r, _, e, h => by
    unfold leave at h
    split at h
    · split at h
      · cases q : leave e (j + 1) r with
        | none => rw [q] at h; cases h
        | some l => rw [q] at h; cases h; rw [List.length_cons, List.length_cons, leave_len q]
      · cases h
    · cases h
  | j, .v t :: r, _, e, h => by
    simp only [leave] at h
    cases q : leave e (j + 1) r with
    | none => rw [q] at h; cases h
    | some l => rw [q] at h; cases h; rw [List.length_cons, List.length_cons, leave_len q]
  | j, .non :: r, _, e, h => by
    simp only [leave] at h
    cases q : leave e (j + 1) r with
    | none => rw [q] at h; cases h
    | some l => rw [q] at h; cases h; rw [List.length_cons, List.length_cons, leave_len q]
/-- slot by slot -/
theorem leave_get : ∀ {k j : Nat} {as as' : Args} {e : Sls} {s : Sl}, leave e k as = some as' → as[j]? = some s → (∃ o o', s = .own o ∧ e[k + j]? = some (.own (.tg (k + j) o')) ∧ as'[j]? = some (.own (retag o (strip o')))) ∨ ((∀ o, s ≠ .own o) ∧ as'[j]? = some s)
  | _, _, [], _, _, _, _, q => by simp at q
  | k, j, .own o :: r, _, e, s, h, q => by
    unfold leave at h
    split at h
    · rename_i k' o' he
      split at h
      · rename_i hk
        subst hk
        cases q2 : leave e (k' + 1) r with
        | none => rw [q2] at h; cases h
        | some l =>
          rw [q2] at h; cases h
          cases j with
          | zero => simp at q; subst q; exact .inl ⟨o, o', rfl, by simpa using he, rfl⟩
          | succ j =>
            have := leave_get (j := j) q2 (by simpa using q)
            rw [show k' + 1 + j = k' + (j + 1) by omega] at this
            simpa using this
      · cases h
    · cases h
  | k, j, .v t :: r, _, e, s, h, q => by
    simp only [leave] at h
    cases q2 : leave e (k + 1) r with
    | none => rw [q2] at h; cases h
    | some l =>
      rw [q2] at h; cases h
      cases j with
      | zero => simp at q; subst q; exact .inr ⟨(fun o e => by cases e), rfl⟩
      | succ j =>
        have := leave_get (j := j) q2 (by simpa using q)
        rw [show k + 1 + j = k + (j + 1) by omega] at this
        simpa using this
  | k, j, .non :: r, _, e, s, h, q => by
    simp only [leave] at h
    cases q2 : leave e (k + 1) r with
    | none => rw [q2] at h; cases h
    | some l =>
      rw [q2] at h; cases h
      cases j with
      | zero => simp at q; subst q; exact .inr ⟨(fun o e => by cases e), rfl⟩
      | succ j =>
        have := leave_get (j := j) q2 (by simpa using q)
        rw [show k + 1 + j = k + (j + 1) by omega] at this
        simpa using this

/-! ### a def's entry and its end -/
section
variable {g : Gk} {β : Nat → Addr} {Z : SetA} {as : Args} {vs : List V} {H : Hp} {N : List PySem.Str}
/-- where the arguments stand -/
def adrs (vs : List V) (j : Nat) : Addr := match vs[j]? with
  | some (.ref a) => a
  | _ => 0
theorem start_get {j : Nat} (h : j < vs.length) : (L2.start N vs)[j]? = some (vs[j]?) := by
  unfold L2.start
  rw [List.getElem?_append_left (by simpa using h), List.getElem?_map, List.getElem?_eq_getElem h]
  rfl
theorem map_get {j : Nat} {x : V} : (vs.map some)[j]? = some (some x) ↔ vs[j]? = some x := by
  rw [List.getElem?_map]
  cases vs[j]? <;> simp
theorem enter_get {n j : Nat} {s : Sl} (h : (enter as n)[j]? = some s) (hs : s ≠ .non) : j < as.length ∧ ∃ s0, as[j]? = some s0 ∧ ((∃ o, s0 = .own o ∧ s = .own (.tg j (strip o))) ∨ ((∀ o, s0 ≠ .own o) ∧ s = s0)) := by
  unfold enter at h
  by_cases q : j < as.length
  · rw [List.getElem?_append_left (by rw [tagA_len]; exact q), tagA_get, List.getElem?_eq_getElem q] at h
    refine ⟨q, as[j], List.getElem?_eq_getElem q, ?_⟩
    simp only [Option.map_some, Option.some.injEq] at h
    cases e : as[j] with
    | own o => rw [e] at h; simp only [Nat.zero_add] at h; exact .inl ⟨o, rfl, h.symm⟩
    | v t => rw [e] at h; exact .inr ⟨(fun o e => by cases e), h.symm⟩
    | non => rw [e] at h; exact .inr ⟨(fun o e => by cases e), h.symm⟩
  · rw [List.getElem?_append_right (by rw [tagA_len]; omega), List.getElem?_replicate] at h
    split at h
    · injection h with h; exact (hs h.symm).elim
    · cases h
theorem enter_so {n : Nat} (hl : as.length = vs.length) (hn : vs.length ≤ N.length) {p : Addr} : SO (enter as n) (L2.start N vs) p ↔ SO as (vs.map some) p := by
  constructor
  · rintro ⟨j, o, h1, h2⟩
    obtain ⟨hj, s0, h3, h4⟩ := enter_get h1 (by intro e; cases e)
    rcases h4 with ⟨o', rfl, h4⟩ | ⟨h4, h5⟩
    · rw [start_get (by omega)] at h2
      injection h2 with h2
      exact ⟨j, o', h3, map_get.mpr h2⟩
    · exact (h4 o h5.symm).elim
  · rintro ⟨j, o, h1, h2⟩
    have hj : j < as.length := (List.getElem?_eq_some_iff.mp h1).1
    refine ⟨j, .tg j (strip o), ?_, ?_⟩
    · unfold enter
      rw [List.getElem?_append_left (by rw [tagA_len]; exact hj), tagA_get, h1]
      simp
    · rw [start_get (by omega), map_get.mp h2]
theorem enter_hid {n : Nat} (hl : as.length = vs.length) (hn : vs.length ≤ N.length) : hid Z (enter as n) (L2.start N vs) H = hid Z as (vs.map some) H := by
  funext p
  unfold hid
  by_cases q : Z p ∨ SO as (vs.map some) p
  · rw [if_pos q, if_pos (q.imp id (enter_so hl hn).mpr)]
  · rw [if_neg q, if_neg fun z => q (z.imp id (enter_so hl hn).mp)]
theorem enter_rep (rE : RepEnv ⟨g.K, β⟩ Z as (vs.map some) H) (hn : vs.length ≤ N.length) : RepEnv ⟨g.K, adrs vs⟩ Z (enter as N.length) (L2.start N vs) H := by
  have hl : as.length = vs.length := by rw [rE.len, List.length_map]
  refine ⟨?_, fun j t e => ?_, fun j o e => ?_, fun i j o o' a e1 e2 e3 e4 => ?_, rE.zd⟩
  · unfold enter L2.start
    rw [List.length_append, List.length_append, tagA_len, List.length_replicate, List.length_map, List.length_replicate]
    omega
  · obtain ⟨hj, s0, h3, h4⟩ := enter_get e (by intro e; cases e)
    rcases h4 with ⟨o', rfl, h4⟩ | ⟨h4, h5⟩
    · cases h4
    · subst h5
      obtain ⟨x, q1, q2⟩ := rE.v j t h3
      rw [enter_hid hl hn]
      exact ⟨x, by rw [start_get (by omega), map_get.mp q1], q2⟩
  · obtain ⟨hj, s0, h3, h4⟩ := enter_get e (by intro e; cases e)
    rcases h4 with ⟨o', rfl, h4⟩ | ⟨h4, h5⟩
    · injection h4 with h4; subst h4
      obtain ⟨a, q1, q2, q3⟩ := rE.own j o' h3
      rw [enter_hid hl hn]
      have ha := map_get.mp q1
      exact ⟨a, by rw [start_get (by omega), ha], q2, by unfold adrs; simp only; rw [ha], RepOb.strip (K := ⟨g.K, β⟩) (K' := ⟨g.K, adrs vs⟩) rfl q3⟩
    · exact (h4 o h5.symm).elim
  · obtain ⟨hi, s0, h3, h4⟩ := enter_get e1 (by intro e; cases e)
    obtain ⟨hj, s1, h5, h6⟩ := enter_get e2 (by intro e; cases e)
    rw [start_get (by omega)] at e3 e4
    injection e3 with e3
    injection e4 with e4
    rcases h4 with ⟨w, rfl, h4⟩ | ⟨h4, z⟩
    · rcases h6 with ⟨w', rfl, h6⟩ | ⟨h6, z⟩
      · exact rE.inj i j w w' a h3 h5 (map_get.mpr e3) (map_get.mpr e4)
      · exact (h6 o' z.symm).elim
    · exact (h4 o z.symm).elim

/-- what came back owns just what was lent -/
theorem leave_so {e : Sls} {as' : Args} {xs : List (Option V)} (h : leave e 0 as = some as') {p : Addr} : SO as' xs p ↔ SO as xs p := by
  constructor
  · rintro ⟨j, o, h1, h2⟩
    have hj : j < as.length := by rw [← leave_len h]; exact (List.getElem?_eq_some_iff.mp h1).1
    rcases leave_get h (List.getElem?_eq_getElem hj) with ⟨o1, o2, e1, _, e2⟩ | ⟨n, e2⟩
    · exact ⟨j, o1, by rw [List.getElem?_eq_getElem hj, e1], h2⟩
    · rw [h1] at e2; injection e2 with e2; exact (n o e2.symm).elim
  · rintro ⟨j, o, h1, h2⟩
    rcases leave_get h h1 with ⟨o1, o2, e1, _, e2⟩ | ⟨n, e2⟩
    · exact ⟨j, _, e2, h2⟩
    · exact (n o rfl).elim
/-- a def's end, as its caller sees it -/
theorem leave_post {e : Sls} {as' : Args} {Z1 Z2 : SetA} {σ' : St} {H' : Hp} (rE : RepEnv ⟨g.K, β⟩ Z as (vs.map some) H) (hn : vs.length ≤ N.length) (p : Post ⟨g.K, adrs vs⟩ Z (enter as N.length) (L2.start N vs) H Z1 e σ' H') (h : leave e 0 as = some as')
    (z1 : ∀ q, Z q → Z2 q) (z2 : ∀ q, Z2 q → (Z1 q ∨ SO e σ' q) ∧ ¬ SO as (vs.map some) q) : Post ⟨g.K, β⟩ Z as (vs.map some) H Z2 as' (vs.map some) H' ∧ Same (hid Z1 e σ' H') (hid Z2 as' (vs.map some) H') := by
  have hl : as.length = vs.length := by rw [rE.len, List.length_map]
  -- what was lent stands where it stood
  have key : ∀ {j : Nat} {o : Ob}, as[j]? = some (.own o) → ∃ o', e[j]? = some (.own (.tg j o')) ∧ as'[j]? = some (.own (retag o (strip o'))) ∧ σ'[j]? = some (some (.ref (adrs vs j))) ∧ vs[j]? = some (.ref (adrs vs j)) ∧
      RepOb ⟨g.K, β⟩ (hid Z1 e σ' H') H' (adrs vs j) (retag o (strip o')) := by
    intro j o hj
    rcases leave_get h hj with ⟨o1, o2, e1, e2, e3⟩ | ⟨n, _⟩
    · injection e1 with e1; subst e1
      rw [Nat.zero_add] at e2
      obtain ⟨a, q1, q2, q3, q4⟩ := p.rep.own j _ e2
      subst q3
      obtain ⟨b, w1, w2, w3⟩ := rE.own j o hj
      have hb : vs[j]? = some (.ref b) := map_get.mp w1
      have eb : adrs vs j = b := by unfold adrs; rw [hb]
      refine ⟨o2, e2, e3, q1, by rw [eb]; exact hb, ?_⟩
      refine RepOb.retag (G1 := hid Z as (vs.map some) H) (H1 := H) (by rw [eb]; exact w3) ?_
      exact RepOb.strip (K := ⟨g.K, adrs vs⟩) (K' := ⟨g.K, β⟩) rfl q4
    · exact (n o rfl).elim
  have soE : ∀ {q : Addr}, SO as' (vs.map some) q → SO e σ' q := fun {q} hq => by
    obtain ⟨j, o, h1, h2⟩ := (leave_so h).mp hq
    obtain ⟨o', k1, k2, k3, k4, _⟩ := key h1
    rw [map_get] at h2
    rw [k4] at h2; injection h2 with h2; injection h2 with h2; subst h2
    exact ⟨j, _, k1, k3⟩
  have sm : Same (hid Z1 e σ' H') (hid Z2 as' (vs.map some) H') := fun q u hq => by
    obtain ⟨h1, h2, h3⟩ := hid_some.mp hq
    exact hid_some.mpr ⟨fun z => (z2 q z).1.elim h1 h2, fun z => h2 (soE z), h3⟩
  have s0 : Same (hid Z as (vs.map some) H) (hid Z1 e σ' H') := fun q u hq => p.same _ _ (by rw [enter_hid hl hn]; exact hq)
  refine ⟨⟨⟨by rw [leave_len h]; exact rE.len, fun j t ej => ?_, fun j o ej => ?_, fun i j o o' a e1 e2 e3 e4 => ?_, fun q hq => ?_⟩, fun q u e1 e2 => p.fr q u e1 fun z => e2 ((enter_so hl hn).mp z), p.dom, fun q hq => .inl ((leave_so h).mp hq), z1, fun q hq => ?_⟩, sm⟩
  · have hj : j < as.length := by rw [← leave_len h]; exact (List.getElem?_eq_some_iff.mp ej).1
    rcases leave_get h (List.getElem?_eq_getElem hj) with ⟨o1, o2, e1, _, e2⟩ | ⟨n, e2⟩
    · rw [e2] at ej; cases ej
    · rw [e2] at ej
      have ej' : as[j]? = some (.v t) := by rw [List.getElem?_eq_getElem hj]; exact ej
      obtain ⟨x, w1, w2⟩ := rE.v j t ej'
      exact ⟨x, w1, (w2.mono s0).mono sm⟩
  · have hj : j < as.length := by rw [← leave_len h]; exact (List.getElem?_eq_some_iff.mp ej).1
    rcases leave_get h (List.getElem?_eq_getElem hj) with ⟨o1, o2, e1, _, e2⟩ | ⟨n, e2⟩
    · have hj' : as[j]? = some (.own o1) := by rw [List.getElem?_eq_getElem hj, e1]
      obtain ⟨o', k1, k2, k3, k4, k5⟩ := key hj'
      rw [k2] at ej; injection ej with ej; injection ej with ej; subst ej
      refine ⟨adrs vs j, map_get.mpr k4, fun z => (z2 _ z).2 ⟨j, o1, hj', map_get.mpr k4⟩, k5.mono sm fun _ e => e⟩
    · rw [e2] at ej; injection ej with ej; exact (n o ej).elim
  · have bk : ∀ {j : Nat} {o : Ob}, as'[j]? = some (.own o) → ∃ o', as[j]? = some (.own o') := fun {j o} ej => by
      have hj : j < as.length := by rw [← leave_len h]; exact (List.getElem?_eq_some_iff.mp ej).1
      rcases leave_get h (List.getElem?_eq_getElem hj) with ⟨o1, o2, e1, _, e2⟩ | ⟨n, e2⟩
      · exact ⟨o1, by rw [List.getElem?_eq_getElem hj, e1]⟩
      · rw [e2] at ej; injection ej with ej; exact (n o ej).elim
    obtain ⟨w1, q1⟩ := bk e1
    obtain ⟨w2, q2⟩ := bk e2
    exact rE.inj i j w1 w2 a q1 q2 e3 e4
  · rcases (z2 q hq).1 with z | z
    · exact p.rep.zd q z
    · exact p.rep.so_dom z
  · obtain ⟨h1, h2⟩ := z2 q hq
    rcases h1 with z | z
    · exact p.zn q z
    · rcases p.so q z with w | w
      · exact (h2 ((enter_so hl hn).mp w)).elim
      · exact .inr w
/-- a def's body tells its promise -/
theorem finish_ok {W : WB} {Q : VK} {E : XK} {r : R Fl} (rE : RepEnv ⟨g.K, β⟩ Z as (vs.map some) H) (hn : vs.length ≤ N.length) (hW : W.β = adrs vs) (hE : ∀ cls d σ H, E cls d H → W cls d σ H)
    (h : match finish as r with
      | .rt r as' => ∀ x H' Z', Post ⟨g.K, β⟩ Z as (vs.map some) H Z' as' (vs.map some) H' → RR ⟨g.K, β⟩ Z' as' (vs.map some) H H' r x → Q x H'
      | .er x as' => ∀ cls d H', Post ⟨g.K, β⟩ Z as (vs.map some) H Z as' (vs.map some) H' → RX g (hid Z as' (vs.map some) H') x cls d H' → E cls d H'
      | .no => False) : OutS g W { nx := fun _ H' => Q .non H', rt := Q } (L2.start N vs) Z (enter as N.length) H r := by
  have eW : kb g W = ⟨g.K, adrs vs⟩ := by unfold kb; rw [hW]
  have hl : as.length = vs.length := by rw [rE.len, List.length_map]
  cases r with
  | no => exact h
  | er x e =>
    simp only [finish] at h
    cases q : leave e 0 as with
    | none => rw [q] at h; exact h.elim
    | some as' =>
      rw [q] at h
      intro cls d σ' H' p rx
      rw [eW] at p
      obtain ⟨p2, sm⟩ := leave_post (Z2 := Z) rE hn p q (fun _ z => z) fun q z => ⟨.inl z, rE.z_so z⟩
      exact hE cls d σ' H' (h cls d H' p2 (rx.mono sm))
  | ok f e =>
    simp only [finish] at h
    cases qe : endOf f e with
    | none => rw [qe] at h; exact h.elim
    | some r =>
      cases q : leave e 0 as with
      | none => rw [qe, q] at h; exact h.elim
      | some as' =>
        rw [qe, q] at h
        simp only at h
        -- what is hidden at the end: all but what was lent
        have fin : ∀ {σ' : St} {H' : Hp} {Z' : SetA} {x : V}, Post ⟨g.K, adrs vs⟩ Z (enter as N.length) (L2.start N vs) H Z' e σ' H' → ((∃ t, r = .v t ∧ Rp g.K (hid Z' e σ' H') x t) ∨ ∃ o a, r = .fr o ∧ x = .ref a ∧ H a = none ∧ (Z' a ∨ SO e σ' a) ∧ RepOb ⟨g.K, β⟩ (hid Z' e σ' H') H' a o) → Q x H' := by
          intro σ' H' Z' x p hx
          obtain ⟨p2, sm⟩ := leave_post (Z2 := fun a => (Z' a ∨ SO e σ' a) ∧ ¬ SO as (vs.map some) a) rE hn p q (fun a z => ⟨.inl (p.zs a z), rE.z_so z⟩) fun _ z => z
          refine h x H' _ p2 ?_
          rcases hx with ⟨t, rfl, hx⟩ | ⟨o, a, rfl, rfl, h1, h2, h3⟩
          · exact Rp.mono sm hx
          · refine ⟨a, rfl, h1, ⟨h2, fun so => ?_⟩, h3.mono sm fun _ e => e⟩
            obtain ⟨u, w⟩ := rE.so_dom so
            rw [h1] at w; cases w
        cases f with
        | nx =>
          injection qe with qe; subst qe
          intro σ' H' Z' p
          rw [eW] at p
          exact fin p (.inl ⟨_, rfl, .non⟩)
        | bk => cases qe
        | ct => cases qe
        | rt r0 =>
          intro x σ' H' Z' p l
          rw [eW] at p l
          have qe : retOf r0 e = some r := qe
          cases r0 with
          | v t => injection qe with qe; subst qe; exact fin p (.inl ⟨t, rfl, l⟩)
          | fr o =>
            injection qe with qe; subst qe
            obtain ⟨a, rfl, h1, h2, h3⟩ := l
            exact fin p (.inr ⟨strip o, a, rfl, rfl, h1, .inl h2, RepOb.strip (K := ⟨g.K, adrs vs⟩) (K' := ⟨g.K, β⟩) rfl h3⟩)
          | sl i =>
            obtain ⟨l1, l2⟩ := l
            simp only [retOf] at qe
            split at qe
            · cases qe
            · rename_i o hno ho
              injection qe with qe; subst qe
              obtain ⟨a, w1, w2, w3⟩ := p.rep.own i o ho
              rw [l1] at w1; injection w1 with w1; injection w1 with w1; subst w1
              have soa : SO e σ' a := ⟨i, o, ho, l1⟩
              refine fin p (.inr ⟨o, a, rfl, rfl, ?_, .inr soa, ?_⟩)
              · rcases p.so a soa with z | z
                · obtain ⟨j, w, z1, z2⟩ := (enter_so hl hn).mp z
                  rcases leave_get q z1 with ⟨o1, o2, e1, e2, e3⟩ | ⟨n, _⟩
                  · rw [Nat.zero_add] at e2
                    obtain ⟨b, y1, y2, y3, y4⟩ := p.rep.own j _ e2
                    subst y3
                    have hv : vs[j]? = some (.ref a) := map_get.mp z2
                    have ea : adrs vs j = a := by unfold adrs; rw [hv]
                    have hij := p.rep.inj i j _ _ a ho e2 l1 (by rw [y1]; show some (some (V.ref (adrs vs j))) = _; rw [ea])
                    subst hij
                    rw [ho] at e2; injection e2 with e2; injection e2 with e2
                    exact (hno i o2 e2).elim
                  · exact (n w rfl).elim
                · exact z
              · cases o with
                | lst ts => exact w3
                | dct ts => exact w3
                | tg j o => exact (hno j o rfl).elim
            · rename_i t ht
              injection qe with qe; subst qe
              obtain ⟨y, w1, w2⟩ := p.rep.v i t ht
              rw [l1] at w1; injection w1 with w1; injection w1 with w1; subst w1
              exact fin p (.inl ⟨t, rfl, w2⟩)
            · cases qe
end
end Ev
end P_Ev10

section P_Ev11
set_option Elab.async false
set_option linter.all false
set_option maxRecDepth 100000
/-! Ev11: calls of defs. -/
namespace Ev
open PySem L2 PySem.Spec
open PyProof.Rows hiding St
set_option autoImplicit false

theorem passF {X : Cx} (σ : St) : PassesAt (L2.CX X.prog X.w) X σ (fun _ _ _ => False) := fun pins H s e s' I c => by
  obtain ⟨a, B, H', cls, d, h⟩ := c
  exact (h.2.2.2.2.2.2.2).elim
inductive AV where
  | t (t : T)
  | b (i : Nat)
def argT (b : Bool) (r : Vw) : M AV := match b, r with
  | true, .sl i => fun e => .ok (.b i) e
  | true, _ => fun _ => .no
  | false, r => (toT r).bind fun t e => .ok (.t t) e
def argsT : List Bool → List Vw → M (List AV)
  | [], [] => fun e => .ok [] e
  | b :: bs, r :: rs => (argT b r).bind fun a => (argsT bs rs).bind fun as e => .ok (a :: as) e
  | _, _ => fun _ => .no
def argsS (e : Sls) : List AV → Option (List Sl)
  | [] => some []
  | .t t :: r => (argsS e r).map fun ss => .v t :: ss
  | .b i :: r => match e[i]? with
    | some (.own o) => (argsS e r).map fun ss => .own o :: ss
    | _ => none
def bIdx : List AV → List Nat
  | [] => []
  | .t _ :: r => bIdx r
  | .b i :: r => i :: bIdx r
def back (e : Sls) : List AV → List Sl → Sls
  | .b i :: avs, .own o :: ss => back (e.set i (.own o)) avs ss
  | _ :: avs, _ :: ss => back e avs ss
  | _, _ => e
/-- as many, and what was lent comes back -/
def likeA : List Sl → List Sl → Bool
  | [], [] => true
  | .own _ :: r, .own _ :: r' => likeA r r'
  | .own _ :: _, _ :: _ => false
  | _ :: r, _ :: r' => likeA r r'
  | _, _ => false
def callA (cf : CF) (f : String) (avs : List AV) : M Vw := fun e => match argsS e avs with
  | none => .no
  | some as => if (bIdx avs).Nodup then (match cf f as with
    | .rt (.sl _) _ => .no
    | .rt r as' => if likeA as as' then .ok r (back e avs as') else .no
    | .er x as' => if likeA as as' then .er x (back e avs as') else .no
    | .no => .no) else .no
def mCall (cf : CF) (f : String) (bs : List Bool) (A : M (List Vw)) : M Vw := A.bind fun rs => (argsT bs rs).bind fun avs => callA cf f avs
def permL {α : Type} (l : List α) : List Nat → Option (List α)
  | [] => some []
  | k :: ks => match l[k]? with
    | some a => (permL l ks).map fun r => a :: r
    | none => none
/-- f(k = e, ..): the values in the order of the keywords, handed on in the parameters' -/
def mCallK (cf : CF) (f : String) (bs : List Bool) (perm : List Nat) (A : M (List Vw)) : M Vw := A.bind fun rs => (argsT bs rs).bind fun avs => match permL avs perm with
  | some avs' => callA cf f avs'
  | none => fun _ => .no
theorem likeA_ok : ∀ {as as' : List Sl}, likeA as as' = true → as'.length = as.length ∧ ∀ (j : Nat) (o : Ob), as[j]? = some (Sl.own o) → ∃ o' : Ob, as'[j]? = some (Sl.own o')
  | [], [], _ => ⟨rfl, fun j o h => by simp at h⟩
  | [], _ :: _, h => by cases h
  | .own _ :: _, [], h => by cases h
  | .v _ :: _, [], h => by cases h
  | .non :: _, [], h => by cases h
  | .own _ :: r, .own o1 :: r', h => by
    obtain ⟨a, b⟩ := likeA_ok (as := r) (as' := r') h
    refine ⟨by simp [a], fun j o q => ?_⟩
    cases j with
    | zero => exact ⟨o1, rfl⟩
    | succ j => simpa using b j o (by simpa using q)
  | .own _ :: r, .v _ :: r', h => by cases h
  | .own _ :: r, .non :: r', h => by cases h
  | .v _ :: r, s :: r', h => by
    obtain ⟨a, b⟩ := likeA_ok (as := r) (as' := r') (by simpa [likeA] using h)
    refine ⟨by simp [a], fun j o q => ?_⟩
    cases j with
    | zero => simp at q
    | succ j => simpa using b j o (by simpa using q)
  | .non :: r, s :: r', h => by
    obtain ⟨a, b⟩ := likeA_ok (as := r) (as' := r') (by simpa [likeA] using h)
    refine ⟨by simp [a], fun j o q => ?_⟩
    cases j with
    | zero => simp at q
    | succ j => simpa using b j o (by simpa using q)
theorem back_len : ∀ {avs : List AV} {ss : List Sl} {e : Sls}, (back e avs ss).length = e.length
  | [], ss, e => by cases ss <;> rfl
  | .t _ :: avs, [], _ => rfl
  | .b _ :: avs, [], _ => rfl
  | .t _ :: avs, s :: ss, e => by simp only [back]; exact back_len
  | .b i :: avs, .own o :: ss, e => by simp only [back]; rw [back_len, List.length_set]
  | .b i :: avs, .v _ :: ss, e => by simp only [back]; exact back_len
  | .b i :: avs, .non :: ss, e => by simp only [back]; exact back_len
theorem mem_bIdx {i : Nat} : ∀ {avs : List AV}, i ∈ bIdx avs ↔ ∃ j : Nat, avs[j]? = some (AV.b i)
  | [] => by simp [bIdx]
  | .t _ :: r => by
    simp only [bIdx]
    rw [mem_bIdx]
    constructor
    · rintro ⟨j, h⟩; exact ⟨j + 1, by simpa using h⟩
    · rintro ⟨j, h⟩
      cases j with
      | zero => simp at h
      | succ j => exact ⟨j, by simpa using h⟩
  | .b k :: r => by
    simp only [bIdx, List.mem_cons]
    rw [mem_bIdx]
    constructor
    · rintro (rfl | ⟨j, h⟩)
      · exact ⟨0, rfl⟩
      · exact ⟨j + 1, by simpa using h⟩
    · rintro ⟨j, h⟩
      cases j with
      | zero => simp at h; exact .inl h.symm
      | succ j => exact .inr ⟨j, by simpa using h⟩
theorem back_out {i : Nat} : ∀ {avs : List AV} {ss : List Sl} {e : Sls}, i ∉ bIdx avs → (back e avs ss)[i]? = e[i]?
  | [], ss, e, _ => by cases ss <;> rfl
  | .t _ :: avs, [], _, _ => rfl
  | .b _ :: avs, [], _, _ => rfl
  | .t _ :: avs, s :: ss, e, h => by simp only [back]; exact back_out h
  | .b k :: avs, .own o :: ss, e, h => by
    simp only [bIdx, List.mem_cons, not_or] at h
    simp only [back]
    rw [back_out h.2, List.getElem?_set_ne (fun z => h.1 z.symm)]
  | .b k :: avs, .v _ :: ss, e, h => by
    simp only [bIdx, List.mem_cons, not_or] at h
    simp only [back]; exact back_out h.2
  | .b k :: avs, .non :: ss, e, h => by
    simp only [bIdx, List.mem_cons, not_or] at h
    simp only [back]; exact back_out h.2
theorem back_in {i j : Nat} {o : Ob} : ∀ {avs : List AV} {ss : List Sl} {e : Sls}, (bIdx avs).Nodup → avs[j]? = some (AV.b i) → ss[j]? = some (.own o) → i < e.length → (back e avs ss)[i]? = some (.own o) := by
  induction j with
  | zero =>
    intro avs ss e hn h1 h2 hi
    cases avs with
    | nil => simp at h1
    | cons a avs =>
      simp at h1; subst h1
      cases ss with
      | nil => simp at h2
      | cons s ss =>
        simp at h2; subst h2
        simp only [back]
        simp only [bIdx, List.nodup_cons] at hn
        rw [back_out hn.1, List.getElem?_set_self hi]
  | succ j ih =>
    intro avs ss e hn h1 h2 hi
    cases avs with
    | nil => simp at h1
    | cons a avs =>
      cases ss with
      | nil => simp at h2
      | cons s ss =>
        simp at h1 h2
        cases a with
        | t t => simp only [back]; exact ih hn h1 h2 hi
        | b k =>
          simp only [bIdx, List.nodup_cons] at hn
          cases s with
          | own o' => simp only [back]; exact ih hn.2 h1 h2 (by rw [List.length_set]; exact hi)
          | v t => simp only [back]; exact ih hn.2 h1 h2 hi
          | non => simp only [back]; exact ih hn.2 h1 h2 hi
section
variable {K : KB} {Z Z1 : SetA} {env env1 env2 : Sls} {σ : St} {H0 H H1 : Hp}
/-- what an argument is -/
inductive AVR (K : KB) (H0 : Hp) (Z1 : SetA) (env : Sls) (σ : St) (H : Hp) : List AV → List V → Prop
  | nil : AVR K H0 Z1 env σ H [] []
  | t {t : T} {x : V} {avs : List AV} {xs : List V} : Sees K H0 Z1 env σ H x t → AVR K H0 Z1 env σ H avs xs → AVR K H0 Z1 env σ H (.t t :: avs) (x :: xs)
  | b {i : Nat} {x : V} {avs : List AV} {xs : List V} : σ[i]? = some (some x) → AVR K H0 Z1 env σ H avs xs → AVR K H0 Z1 env σ H (.b i :: avs) (x :: xs)
theorem AVR.step (p : Post K Z1 env σ H Z1 env1 σ H1) : ∀ {avs : List AV} {xs : List V}, AVR K H0 Z1 env σ H avs xs → AVR K H0 Z1 env1 σ H1 avs xs
  | _, _, .nil => .nil
  | _, _, .t h r => .t (h.step p) (AVR.step p r)
  | _, _, .b h r => .b h (AVR.step p r)
theorem argsT_er {y : Exc} : ∀ {bs : List Bool} {rs : List Vw} {env env2 : Sls}, argsT bs rs env ≠ .er y env2
  | [], [], _, _, e => by cases e
  | [], _ :: _, _, _, e => by cases e
  | _ :: _, [], _, _, e => by cases e
  | b :: bs, r :: rs, env, _, e => by
    simp only [argsT, M.bind] at e
    cases q : argT b r env with
    | er y e2 =>
      cases b with
      | true => cases r <;> cases q
      | false =>
        have q : (toT r env).bind (fun t e => R.ok (AV.t t) e) = .er y e2 := q
        cases q2 : toT r env with
        | er y e => exact (toT_er q2).elim
        | no => rw [q2] at q; cases q
        | ok t e => rw [q2] at q; cases q
    | no => rw [q] at e; cases e
    | ok a env1 =>
      rw [q] at e
      simp only [R.bind, M.bind] at e
      cases q2 : argsT bs rs env1 with
      | er y e2 => exact (argsT_er q2).elim
      | no => rw [q2] at e; cases e
      | ok as e2 => rw [q2] at e; cases e
theorem argsT_ok : ∀ {bs : List Bool} {rs : List Vw} {xs : List V} {avs : List AV} {env env2 : Sls}, RepEnv K Z1 env σ H → RRs K Z1 env σ H0 H rs xs → argsT bs rs env = .ok avs env2 → Post K Z1 env σ H Z1 env2 σ H ∧ Kp env env2 ∧ AVR K H0 Z1 env2 σ H avs xs
  | [], [], _, _, _, _, rE, l, e => by
    cases l
    injection e with e1 e2; subst e1; subst e2
    exact ⟨rE.post, Kp.refl, .nil⟩
  | [], _ :: _, _, _, _, _, _, _, e => by cases e
  | _ :: _, [], _, _, _, _, _, _, e => by cases e
  | b :: bs, r :: rs, _, _, env, _, rE, l, e => by
    cases l with
    | cons l1 l2 l3 =>
      simp only [argsT, M.bind] at e
      cases q : argT b r env with
      | er y e2 => rw [q] at e; cases e
      | no => rw [q] at e; cases e
      | ok a env1 =>
        rw [q] at e
        simp only [R.bind, M.bind] at e
        cases q2 : argsT bs rs env1 with
        | er y e2 => rw [q2] at e; cases e
        | no => rw [q2] at e; cases e
        | ok as env3 =>
          rw [q2] at e
          injection e with e1 e2; subst e1; subst e2
          cases b with
          | true =>
            cases r with
            | sl i =>
              injection q with q1 q3; subst q1; subst q3
              obtain ⟨p2, k2, r2⟩ := argsT_ok rE l2 q2
              exact ⟨p2, k2, .b l1.1 r2⟩
            | v t => cases q
            | fr o => cases q
          | false =>
            have q : (toT r env).bind (fun t e => R.ok (AV.t t) e) = .ok a env1 := q
            cases q3 : toT r env with
            | er y e => exact (toT_er q3).elim
            | no => rw [q3] at q; cases q
            | ok t e =>
              rw [q3] at q
              injection q with q1 q4; subst q1; subst q4
              obtain ⟨p1, k1, s1⟩ := toT_ok rE l1 q3
              obtain ⟨p2, k2, r2⟩ := argsT_ok p1.rep (l2.step rE p1 k1) q2
              exact ⟨p1.trans p2, k1.trans k2, .t (s1.step p2) r2⟩
theorem argsS_get {e : Sls} : ∀ {avs : List AV} {as : List Sl} {xs : List V} {j : Nat} {s : Sl}, AVR K H0 Z1 env σ H avs xs → argsS e avs = some as → as[j]? = some s →
    (∃ t x, avs[j]? = some (.t t) ∧ s = .v t ∧ xs[j]? = some x ∧ Sees K H0 Z1 env σ H x t) ∨ ∃ i o x, avs[j]? = some (AV.b i) ∧ s = .own o ∧ e[i]? = some (.own o) ∧ xs[j]? = some x ∧ σ[i]? = some (some x)
  | _, _, _, j, s, .nil, h, q => by injection h with h; subst h; simp at q
  | _, _, _, j, s, .t (t := t) (x := x) h1 r, h, q => by
    simp only [argsS] at h
    cases q2 : argsS e ‹_› with
    | none => rw [q2] at h; cases h
    | some l =>
      rw [q2] at h; cases h
      cases j with
      | zero => simp at q; subst q; exact .inl ⟨t, x, rfl, rfl, rfl, h1⟩
      | succ j => simpa using argsS_get (j := j) r q2 (by simpa using q)
  | _, _, _, j, s, .b (i := i) (x := x) h1 r, h, q => by
    simp only [argsS] at h
    split at h
    · rename_i o ho
      cases q2 : argsS e ‹_› with
      | none => rw [q2] at h; cases h
      | some l =>
        rw [q2] at h; cases h
        cases j with
        | zero => simp at q; subst q; exact .inr ⟨i, o, x, rfl, rfl, ho, rfl, h1⟩
        | succ j => simpa using argsS_get (j := j) r q2 (by simpa using q)
    · cases h
theorem argsS_len {e : Sls} : ∀ {avs : List AV} {as : List Sl} {xs : List V}, AVR K H0 Z1 env σ H avs xs → argsS e avs = some as → as.length = xs.length ∧ avs.length = xs.length
  | _, _, _, .nil, h => by injection h with h; subst h; exact ⟨rfl, rfl⟩
  | _, _, _, .t h1 r, h => by
    simp only [argsS] at h
    cases q2 : argsS e ‹_› with
    | none => rw [q2] at h; cases h
    | some l =>
      rw [q2] at h; cases h
      obtain ⟨a, b⟩ := argsS_len r q2
      exact ⟨by simp [a], by simp [b]⟩
  | _, _, _, .b h1 r, h => by
    simp only [argsS] at h
    split at h
    · cases q2 : argsS e ‹_› with
      | none => rw [q2] at h; cases h
      | some l =>
        rw [q2] at h; cases h
        obtain ⟨a, b⟩ := argsS_len r q2
        exact ⟨by simp [a], by simp [b]⟩
    · cases h
theorem bIdx_inj : ∀ {avs : List AV} {j k i : Nat}, (bIdx avs).Nodup → avs[j]? = some (AV.b i) → avs[k]? = some (AV.b i) → j = k
  | [], _, _, _, _, h, _ => by simp at h
  | .t t :: r, j, k, i, hn, h1, h2 => by
    cases j with
    | zero => simp at h1
    | succ j =>
      cases k with
      | zero => simp at h2
      | succ k => exact congrArg (· + 1) (bIdx_inj (avs := r) (j := j) (k := k) (i := i) hn (by simpa using h1) (by simpa using h2))
  | .b m :: r, j, k, i, hn, h1, h2 => by
    simp only [bIdx, List.nodup_cons] at hn
    cases j with
    | zero =>
      simp at h1; subst h1
      cases k with
      | zero => rfl
      | succ k => exact (hn.1 (mem_bIdx.mpr ⟨k, by simpa using h2⟩)).elim
    | succ j =>
      cases k with
      | zero => simp at h2; subst h2; exact (hn.1 (mem_bIdx.mpr ⟨j, by simpa using h1⟩)).elim
      | succ k => exact congrArg (· + 1) (bIdx_inj (avs := r) (j := j) (k := k) (i := i) hn.2 (by simpa using h1) (by simpa using h2))
/-- the callee's view of the caller's state, and back -/
theorem call_view {avs : List AV} {as : List Sl} {xs : List V} (rE : RepEnv K Z env σ H) (hv : AVR K H0 Z1 env σ H avs xs) (hz : ∀ p, Z p → Z1 p) (hd : ∀ p, Z p → ∃ o, H0 p = some o) (has : argsS env avs = some as) (hn : (bIdx avs).Nodup) :
    ∃ Zc : SetA, RepEnv K Zc as (xs.map some) H ∧ ∀ {Zc' : SetA} {as' : List Sl} {H' : Hp} , Post K Zc as (xs.map some) H Zc' as' (xs.map some) H' → as'.length = as.length → (∀ (j : Nat) (o : Ob), as[j]? = some (Sl.own o) → ∃ o' : Ob, as'[j]? = some (Sl.own o')) →
      ∃ Z3 : SetA, Post K Z env σ H Z3 (back env avs as') σ H' ∧ Kp env (back env avs as') ∧ Same (hid Zc' as' (xs.map some) H') (hid Z3 (back env avs as') σ H') ∧ (∀ a, H a = none → Zc' a → Z3 a) := by
  obtain ⟨hl, hl2⟩ := argsS_len hv has
  -- what is lent is the caller's own
  have sub : ∀ p, SO as (xs.map some) p → SO env σ p := fun p ⟨j, o, h1, h2⟩ => by
    rcases argsS_get hv has h1 with ⟨t, x, _, e, _⟩ | ⟨i, o', x, e1, e2, e3, e4, e5⟩
    · cases e
    · rw [map_get, e4] at h2
      injection h2 with h2; subst h2
      injection e2 with e2; subst e2
      exact ⟨i, o, e3, e5⟩
  have hh : ∀ {q : Addr}, ((Z q ∨ (SO env σ q ∧ ¬ SO as (xs.map some) q)) ∨ SO as (xs.map some) q) ↔ (Z q ∨ SO env σ q) := fun {q} => by
    constructor
    · rintro ((h | h) | h)
      · exact .inl h
      · exact .inr h.1
      · exact .inr (sub q h)
    · rintro (h | h)
      · exact .inl (.inl h)
      · by_cases z : SO as (xs.map some) q
        · exact .inr z
        · exact .inl (.inr ⟨h, z⟩)
  have ehid : hid (fun q => Z q ∨ (SO env σ q ∧ ¬ SO as (xs.map some) q)) as (xs.map some) H = hid Z env σ H := by
    funext q
    unfold hid
    by_cases z : Z q ∨ SO env σ q
    · rw [if_pos z, if_pos (hh.mpr z)]
    · rw [if_neg z, if_neg fun w => z (hh.mp w)]
  have rC : RepEnv K (fun q => Z q ∨ (SO env σ q ∧ ¬ SO as (xs.map some) q)) as (xs.map some) H := by
    refine ⟨by rw [List.length_map, hl], fun j t h1 => ?_, fun j o h1 => ?_, fun j k o o' a h1 h2 h3 h4 => ?_, fun q hq => ?_⟩
    · rw [ehid]
      rcases argsS_get hv has h1 with ⟨t', x, _, e, e2, e3⟩ | ⟨i, o', x, e1, e2, _⟩
      · injection e with e; subst e
        exact ⟨x, map_get.mpr e2, e3 Z hz hd⟩
      · cases e2
    · rw [ehid]
      rcases argsS_get hv has h1 with ⟨t, x, _, e, _⟩ | ⟨i, o', x, e1, e2, e3, e4, e5⟩
      · cases e
      · injection e2 with e2; subst e2
        obtain ⟨a, q1, q2, q3⟩ := rE.own i o e3
        rw [e5] at q1; injection q1 with q1; injection q1 with q1; subst q1
        refine ⟨a, map_get.mpr e4, fun z => z.elim q2 fun z => z.2 ⟨j, o, h1, map_get.mpr e4⟩, q3⟩
    · rcases argsS_get hv has h1 with ⟨t, x, _, e, _⟩ | ⟨i, o1, x, e1, e2, e3, e4, e5⟩
      · cases e
      · rcases argsS_get hv has h2 with ⟨t, x, _, e, _⟩ | ⟨i', o1', x', f1, f2, f3, f4, f5⟩
        · cases e
        · rw [map_get, e4] at h3
          injection h3 with h3; subst h3
          rw [map_get, f4] at h4
          injection h4 with h4; subst h4
          have := rE.inj i i' o1 o1' a e3 f3 e5 f5
          subst this
          exact bIdx_inj hn e1 f1
    · rcases hq with hq | hq
      · exact rE.zd q hq
      · exact rE.so_dom hq.1
  refine ⟨_, rC, fun {Zc' as' H'} p hlen ho => ⟨fun q => Zc' q ∧ ¬ SO env σ q, ?_⟩⟩
  -- slot by slot behind the call
  have slot : ∀ (i : Nat) (s : Sl), (back env avs as')[i]? = some s → (i ∉ bIdx avs ∧ env[i]? = some s) ∨ ∃ (j : Nat) (o o' : Ob) (x : V), avs[j]? = some (AV.b i) ∧ env[i]? = some (Sl.own o) ∧ as[j]? = some (Sl.own o) ∧ s = Sl.own o' ∧ as'[j]? = some (Sl.own o') ∧ xs[j]? = some x ∧ σ[i]? = some (some x) := by
    intro i s hs
    by_cases q : i ∈ bIdx avs
    · obtain ⟨j, hj⟩ := mem_bIdx.mp q
      have hj' : j < as.length := by rw [hl, ← hl2]; exact (List.getElem?_eq_some_iff.mp hj).1
      rcases argsS_get hv has (List.getElem?_eq_getElem hj') with ⟨t, x, e1, _⟩ | ⟨i', o, x, e1, e2, e3, e4, e5⟩
      · rw [hj] at e1; cases e1
      · rw [hj] at e1; injection e1 with e1; injection e1 with e1; subst e1
        have hasj : as[j]? = some (.own o) := by rw [List.getElem?_eq_getElem hj', e2]
        obtain ⟨o', ho'⟩ := ho j o hasj
        have hi : i < env.length := (List.getElem?_eq_some_iff.mp e3).1
        rw [back_in hn hj ho' hi] at hs
        injection hs with hs
        exact .inr ⟨j, o, o', x, hj, e3, hasj, hs.symm, ho', e4, e5⟩
    · rw [back_out q] at hs
      exact .inl ⟨q, hs⟩
  have so3 : ∀ q, SO (back env avs as') σ q → SO env σ q := fun q ⟨i, o, h1, h2⟩ => by
    rcases slot i _ h1 with ⟨_, e⟩ | ⟨j, o1, o2, x, _, e, _, _, _, _, _⟩
    · exact ⟨i, o, e, h2⟩
    · exact ⟨i, o1, e, h2⟩
  have so' : ∀ q, SO as (xs.map some) q → SO as' (xs.map some) q := fun q ⟨j, o, h1, h2⟩ => by
    obtain ⟨o', e⟩ := ho j o h1
    exact ⟨j, o', e, h2⟩
  have smc : Same (hid Zc' as' (xs.map some) H') (hid (fun q => Zc' q ∧ ¬ SO env σ q) (back env avs as') σ H') := fun q u hq => by
    obtain ⟨h1, h2, h3⟩ := hid_some.mp hq
    refine hid_some.mpr ⟨fun z => h1 z.1, fun z => ?_, h3⟩
    have soe := so3 q z
    by_cases w : SO as (xs.map some) q
    · exact h2 (so' q w)
    · exact h1 (p.zs q (.inr ⟨soe, w⟩))
  have sme : Same (hid Z env σ H) (hid (fun q => Zc' q ∧ ¬ SO env σ q) (back env avs as') σ H') := fun q u hq => smc _ _ (p.same _ _ (by rw [ehid]; exact hq))
  refine ⟨⟨⟨by rw [back_len]; exact rE.len, fun i t e => ?_, fun i o e => ?_, fun i k o o' a e1 e2 e3 e4 => ?_, fun q hq => p.rep.zd q hq.1⟩, fun q u h1 h2 => p.fr q u h1 fun z => h2 (sub q z), p.dom, fun q h => .inl (so3 q h), fun q h => ⟨p.zs q (.inl h), rE.z_so h⟩, fun q h => ?_⟩, fun i f => ?_, smc, fun a ha hz => ⟨hz, fun so => ?_⟩⟩
  · rcases slot i _ e with ⟨_, e⟩ | ⟨j, o1, o2, x, _, _, _, e, _⟩
    · obtain ⟨x, h1, h2⟩ := rE.v i t e; exact ⟨x, h1, h2.mono sme⟩
    · cases e
  · rcases slot i _ e with ⟨hni, e⟩ | ⟨j, o1, o2, x, e1, e2, e3, e4, e5, e6, e7⟩
    · obtain ⟨a, h1, h2, h3⟩ := rE.own i o e
      refine ⟨a, h1, fun z => z.2 ⟨i, o, e, h1⟩, h3.mono sme fun u hu => p.fr a u hu fun ⟨j, w, q1, q2⟩ => ?_⟩
      rcases argsS_get hv has q1 with ⟨t, x, _, e', _⟩ | ⟨i', o1, x, f1, f2, f3, f4, f5⟩
      · cases e'
      · rw [map_get, f4] at q2
        injection q2 with q2; subst q2
        have := rE.inj i i' o o1 a e f3 h1 f5
        subst this
        exact hni (mem_bIdx.mpr ⟨j, f1⟩)
    · injection e4 with e4; subst e4
      obtain ⟨a, h1, h2, h3⟩ := p.rep.own j o e5
      rw [map_get, e6] at h1
      injection h1 with h1; subst h1
      exact ⟨a, e7, fun z => z.2 ⟨i, o1, e2, e7⟩, h3.mono smc fun _ e => e⟩
  · have bk : ∀ {i : Nat} {o : Ob}, (back env avs as')[i]? = some (.own o) → ∃ o' : Ob, env[i]? = some (Sl.own o') := fun {i o} e => by
      rcases slot i _ e with ⟨_, e⟩ | ⟨j, o1, o2, x, _, e, _⟩
      · exact ⟨o, e⟩
      · exact ⟨o1, e⟩
    obtain ⟨w1, q1⟩ := bk e1
    obtain ⟨w2, q2⟩ := bk e2
    exact rE.inj i k w1 w2 a q1 q2 e3 e4
  · rcases p.zn q h.1 with z | z
    · rcases z with z | z
      · exact .inl z
      · exact (h.2 z.1).elim
    · exact .inr z
  · unfold Full
    by_cases q : i ∈ bIdx avs
    · obtain ⟨j, hj⟩ := mem_bIdx.mp q
      have hj' : j < as.length := by rw [hl, ← hl2]; exact (List.getElem?_eq_some_iff.mp hj).1
      rcases argsS_get hv has (List.getElem?_eq_getElem hj') with ⟨t, x, e1, _⟩ | ⟨i', o, x, e1, e2, e3, e4, e5⟩
      · rw [hj] at e1; cases e1
      · rw [hj] at e1; injection e1 with e1; injection e1 with e1; subst e1
        obtain ⟨o', ho'⟩ := ho j o (by rw [List.getElem?_eq_getElem hj', e2])
        exact .inl ⟨o', back_in hn hj ho' (List.getElem?_eq_some_iff.mp e3).1⟩
    · rw [back_out q]; exact f
  · obtain ⟨u, w⟩ := rE.so_dom so
    rw [ha] at w; cases w
end
section
variable {g : Gk} {W : WB} {σ : St} {Z : SetA} {env : Sls} {H : Hp} {X : Cx} {D : Ends}
theorem rd_callA {cf : CF} {f : String} {Q : VK} {Z1 : SetA} {env1 env2 : Sls} {H1 : Hp} {avs : List AV} {xs : List V} (rE : RepEnv (kb g W) Z env σ H) (p1 : Post (kb g W) Z env σ H Z1 env1 σ H1) (k1 : Kp env env1) (p2 : Post (kb g W) Z1 env1 σ H1 Z1 env2 σ H1) (k2 : Kp env1 env2)
    (hv : AVR (kb g W) H Z1 env2 σ H1 avs xs) (c1 : Out g W (LE (kb g W) σ) σ Q Z env H (callA cf f avs env2)) : spF g (cf f) xs H1 Q (WE W σ) := by
  have p3 : Post (kb g W) Z env σ H Z env2 σ H1 := (p1.trans p2).lessZ
  unfold callA at c1
  cases has : argsS env2 avs with
  | none => rw [has] at c1; exact c1.elim
  | some as =>
    rw [has] at c1
    simp only at c1
    split at c1
    case isFalse => exact c1.elim
    rename_i hn
    obtain ⟨Zc, rC, bkf⟩ := call_view (H0 := H) p3.rep hv p1.zs rE.zd has hn
    refine ⟨Zc, as, W.β, rC, ?_⟩
    cases qf : cf f as with
    | no => rw [qf] at c1; exact c1.elim
    | er x as' =>
      rw [qf] at c1
      simp only at c1
      split at c1
      case isFalse => exact c1.elim
      rename_i hlk
      obtain ⟨l1', l2'⟩ := likeA_ok hlk
      intro cls d H' pc rx
      obtain ⟨Z3, p4, k4, sm, _⟩ := bkf pc l1' l2'
      have c2 : Out g W (LE (kb g W) σ) σ Q Z env H (.er x (back env2 avs as')) := c1
      exact c2 cls d H' (p3.trans p4).lessZ ((rx.mono sm).mono (hid_lessZ p4.zs))
    | rt r as' =>
      rw [qf] at c1
      cases r with
      | sl i => exact c1.elim
      | v t =>
        simp only at c1
        split at c1
        case isFalse => exact c1.elim
        rename_i hlk
        obtain ⟨l1', l2'⟩ := likeA_ok hlk
        intro x H' Zc' pc lr
        obtain ⟨Z3, p4, k4, sm, _⟩ := bkf pc l1' l2'
        have c2 : Out g W (LE (kb g W) σ) σ Q Z env H (.ok (.v t) (back env2 avs as')) := c1
        exact c2 x H' Z3 (p3.trans p4) ((k1.trans k2).trans k4) (Rp.mono sm lr)
      | fr o =>
        simp only at c1
        split at c1
        case isFalse => exact c1.elim
        rename_i hlk
        obtain ⟨l1', l2'⟩ := likeA_ok hlk
        intro x H' Zc' pc lr
        obtain ⟨Z3, p4, k4, sm, hz3⟩ := bkf pc l1' l2'
        obtain ⟨a, rfl, h1, h2, h3⟩ := lr
        have c2 : Out g W (LE (kb g W) σ) σ Q Z env H (.ok (.fr o) (back env2 avs as')) := c1
        exact c2 (.ref a) H' Z3 (p3.trans p4) ((k1.trans k2).trans k4) ⟨a, rfl, p3.none h1, hz3 a h1 h2, h3.mono sm fun _ e => e⟩
theorem rd_call {cf : CF} {f : String} {bs : List Bool} {A : M (List Vw)} {Q : VK} (h : tE g W (mCall cf f bs A) σ H Q) : tCallS (spF g (cf f)) (WE W) (tA g W A) σ H Q := by
  obtain ⟨Z, env, rE, h⟩ := h
  refine ⟨Z, env, rE, (Out.bind0 rE h).mono fun xs H1 ⟨Z1, env1, rs, p1, k1, l1, c1⟩ => ?_⟩
  simp only [M.bind] at c1
  cases q : argsT bs rs env1 with
  | er y e => exact (argsT_er q).elim
  | no => rw [q] at c1; exact c1.elim
  | ok avs env2 =>
    rw [q] at c1
    obtain ⟨p2, k2, hv⟩ := argsT_ok p1.rep l1 q
    exact rd_callA rE p1 k1 p2 k2 hv c1
theorem AVR.get {K : KB} {H0 : Hp} {Z1 : SetA} : ∀ {avs : List AV} {xs : List V} {k : Nat} {a : AV}, AVR K H0 Z1 env σ H avs xs → avs[k]? = some a → ∃ x, xs[k]? = some x ∧ ∀ {as ys}, AVR K H0 Z1 env σ H as ys → AVR K H0 Z1 env σ H (a :: as) (x :: ys)
  | _, _, k, a, .nil, h => by simp at h
  | _, _, 0, a, .t h1 r, h => by simp at h; subst h; exact ⟨_, rfl, fun q => .t h1 q⟩
  | _, _, 0, a, .b h1 r, h => by simp at h; subst h; exact ⟨_, rfl, fun q => .b h1 q⟩
  | _, _, k + 1, a, .t h1 r, h => by simpa using AVR.get (k := k) r (by simpa using h)
  | _, _, k + 1, a, .b h1 r, h => by simpa using AVR.get (k := k) r (by simpa using h)
theorem AVR.perm {K : KB} {H0 : Hp} {Z1 : SetA} {avs : List AV} {xs : List V} (h : AVR K H0 Z1 env σ H avs xs) : ∀ {perm : List Nat} {avs' : List AV}, permL avs perm = some avs' → ∃ xs', permL xs perm = some xs' ∧ AVR K H0 Z1 env σ H avs' xs'
  | [], _, e => by injection e with e; subst e; exact ⟨[], rfl, .nil⟩
  | k :: ks, _, e => by
    simp only [permL] at e
    cases q : avs[k]? with
    | none => rw [q] at e; cases e
    | some a =>
      rw [q] at e
      cases q2 : permL avs ks with
      | none => rw [q2] at e; cases e
      | some r =>
        rw [q2] at e; cases e
        obtain ⟨x, h1, h2⟩ := h.get q
        obtain ⟨xs', h3, h4⟩ := AVR.perm h (perm := ks) q2
        exact ⟨x :: xs', by simp only [permL]; rw [h1, h3]; rfl, h2 h4⟩
theorem rd_callK {cf : CF} {f : String} {bs : List Bool} {perm : List Nat} {A : M (List Vw)} {Q : VK} (h : tE g W (mCallK cf f bs perm A) σ H Q) : tA g W A σ H fun xs H1 => ∃ xs', permL xs perm = some xs' ∧ spF g (cf f) xs' H1 Q (WE W σ) := by
  obtain ⟨Z, env, rE, h⟩ := h
  refine ⟨Z, env, rE, (Out.bind0 rE h).mono fun xs H1 ⟨Z1, env1, rs, p1, k1, l1, c1⟩ => ?_⟩
  simp only [M.bind] at c1
  cases q : argsT bs rs env1 with
  | er y e => exact (argsT_er q).elim
  | no => rw [q] at c1; exact c1.elim
  | ok avs env2 =>
    rw [q] at c1
    simp only [R.bind] at c1
    obtain ⟨p2, k2, hv⟩ := argsT_ok p1.rep l1 q
    cases qp : permL avs perm with
    | none => rw [qp] at c1; exact c1.elim
    | some avs' =>
      rw [qp] at c1
      obtain ⟨xs', e1, e2⟩ := hv.perm qp
      exact ⟨xs', e1, rd_callA rE p1 k1 p2 k2 e2 c1⟩

/-! ### the table of defs -/
/-- how keywords bind -/
def KwOk (fd : FuncData) (ps ks : List String) (perm : List Nat) : Prop :=
  ∀ (s : Shared) (ws ws' : List Value), permL ws perm = some ws' → ws'.length = ps.length → BindsTo s fd ⟨[], (ks.map PySem.Str.ofString).zip ws⟩ ((ps.map PySem.Str.ofString).zip ws')
/-- what a module's def is: where it stands, how it is called -/
structure DefAt (K : PySem.W.Frag) (mg : PySem.Str → Option Value) (f : String) (c : Fn) (fa : Addr) (fd : FuncData) : Prop where
  mg : mg (PySem.Str.ofString f) = some (.ref fa)
  kp : PySem.W.keepIn K (.ref fa) = true
  bd : Binds K fd (c.ps.map PySem.Str.ofString) []
  kw : ∀ ks perm, (ks, perm) ∈ c.kws → KwOk fd c.ps ks perm
/-- all defs keep their promises at this level -/
structure Tb (Γ : String → Option Fn) (P : Program) (w : World) (K : PySem.W.Frag) (mg : PySem.Str → Option Value) (base : Heap) (n : Nat) : Prop where
  at_ : ∀ f c, Γ f = some c → ∃ fa fd, DefAt K mg f c fa fd ∧ FnOk P w K mg base (L2.CX P w) n fa fd (c.ps.map PySem.Str.ofString) (spF ⟨K, mg⟩ (callN Γ n f))
section
variable {Γ : String → Option Fn} {n : Nat} {f : String} {c : Fn} {e : Expr} {es : List Expr} {A : M (List Vw)} {p pos : Pos}
theorem spF_none {vs : List V} {H : Hp} {Q : VK} {E : XK} {F : Args → RF} (hF : ∀ as, F as = .no) : ¬ spF g F vs H Q E := fun ⟨Z, as, β, rE, h⟩ => by rw [hF] at h; exact h
/-- f(e, ..) -/
theorem xcall (T : Tb Γ X.prog X.w X.K X.mg X.base n) (hr : Room n X.A) (hx : ∀ σ, PassesAt (L2.CX X.prog X.w) X σ (WE W σ)) (hf : Γ f = some c) (bs : List Bool) (hg : Gl X (PySem.Str.ofString f)) (ha : XA X W (e :: es) A)
    (hdb : (PySem.Str.ofString f == ("__debug__" : PySem.Str)) = false := by decide) (he : starEach (e :: es) X.env = (false, eval e X.env) :: starEach es X.env := by rfl) (hpl : (backTo pos (starEach es X.env)).any (·.1) = false := by rfl) :
    XE X W (.Call (.Name (PySem.Str.ofString f) p) (e :: es) [] pos) (mCall (callN Γ n) f bs A) := by
  obtain ⟨fa, fd, dA, F⟩ := T.at_ f c hf
  exact (pe_callS F hr hg dA.mg dA.kp dA.bd hx ha hdb he hpl).weak fun σ H Q h => rd_call (g := X.g) h
theorem perm_vals {xs xs' : List V} {us : List Value} (h : Vals xs us) : ∀ {perm : List Nat} {xs' : List V}, permL xs perm = some xs' → ∃ us', permL us perm = some us' ∧ Vals xs' us'
  | [], _, e => by injection e with e; subst e; exact ⟨[], rfl, .nil⟩
  | k :: ks, _, e => by
    simp only [permL] at e
    cases q : xs[k]? with
    | none => rw [q] at e; cases e
    | some x =>
      rw [q] at e
      cases q2 : permL xs ks with
      | none => rw [q2] at e; cases e
      | some r =>
        rw [q2] at e; cases e
        obtain ⟨u, h1, h2⟩ := h.get q
        obtain ⟨us', h3, h4⟩ := perm_vals (xs' := xs') h (perm := ks) q2
        exact ⟨u :: us', by simp only [permL]; rw [h1, h3]; rfl, .cons h2 h4⟩
/-- keywords' values -/
abbrev XKw (X : Cx) (W : WB) (kws : List Keyword) (m : M (List Vw)) : Prop := PK X kws (tA X.g W m)
theorem xknil : XKw X W [] mNil := ⟨fun pos pins s σ H Q I ⟨Z, env, rE, h⟩ => pk_nil.run pos pins s σ H Q I (h [] H Z rE.post Kp.refl .nil)⟩
theorem xkcons {a : Expr} {nm : Option PySem.Str} {kpos : Pos} {kws : List Keyword} {A : M Vw} {B : M (List Vw)} (ha : XE X W a A) (hb : XKw X W kws B) : XKw X W (⟨nm, a, kpos⟩ :: kws) (mCons A B) :=
  ⟨fun pos pins s σ H Q I h => (pk_cons ha hb).run pos pins s σ H Q I (rd_cons (g := X.g) h)⟩
/-- f(k = e, ..) -/
theorem xcallk {kws : List Keyword} {ks : List String} {perm : List Nat} (T : Tb Γ X.prog X.w X.K X.mg X.base n) (hr : Room n X.A) (hx : ∀ σ, PassesAt (L2.CX X.prog X.w) X σ (WE W σ)) (hf : Γ f = some c) (bs : List Bool) (hk : (ks, perm) ∈ c.kws) (hg : Gl X (PySem.Str.ofString f))
    (hks : (backToKw pos (keywordEach kws X.env)).filterMap (·.1) = ks.map PySem.Str.ofString) (ha : XKw X W kws A) (hall : (backToKw pos (keywordEach kws X.env)).all (·.1.isSome) = true := by rfl)
    (hdb : (PySem.Str.ofString f == ("__debug__" : PySem.Str)) = false := by decide)
    (hpl : ((backTo pos (starEach [] X.env)).any (·.1) || (backToKw pos (keywordEach kws X.env)).any (·.1.isNone)) = false := by rfl) :
    XE X W (.Call (.Name (PySem.Str.ofString f) p) [] kws pos) (mCallK (callN Γ n) f bs perm A) := by
  obtain ⟨fa, fd, dA, F⟩ := T.at_ f c hf
  refine ⟨fun pins s σ H Q I h => ?_⟩
  refine wpAny_Call_Name_kw (ld_glob I hg dA.mg ?_ hdb)
  refine PySem.W.callWith_KW0 (h₀ := X.base) I.ok.mod.kin dA.kp hall (thn (ha.run pos pins s σ H _ I (rd_callK (g := X.g) h)) fun ws s2 ⟨zs, H2, I2, rz, xs', e1, q⟩ => ⟨I2.kIn, ?_⟩) hpl
  rw [hks]
  obtain ⟨ws', e2, rv⟩ := perm_vals (xs' := xs') rz e1
  have hl : ws'.length = (c.ps.map PySem.Str.ofString).length := by rw [← rv.length]; exact F.len _ _ _ _ q
  refine wpAny_call (codeAny_mono (F.run X.A X.stack s2 H2 ⟨[], (ks.map PySem.Str.ofString).zip ws⟩ ws' xs' Q (WE W σ) hr I2.env0 (dA.kw ks perm hk s2 ws ws' e2 (by simpa using hl)) rv q) fun r s' hq => ?_)
  cases r with
  | error e => exact hx σ pins H2 s2 e s' I2 hq
  | ok fl =>
    cases fl with
    | ret u => exact I2.after hq
    | next => exact False.elim hq
    | brk => exact False.elim hq
    | cont => exact False.elim hq
end

/-! ### a def keeps its promise -/
/-- what is wanted in the body of a def -/
def wOf (E : XK) (β : Nat → Addr) : WB := ⟨fun cls d _ H => E cls d H, β⟩
theorem fn_sound {P : Program} {w : World} {K : PySem.W.Frag} {mg : PySem.Str → Option Value} {base : Heap} {x qual : PySem.Str} {st : Stmt} {f : Addr} {fd : FuncData} {N ps : List PySem.Str} {c : Fn} {cf : CF} {k : Nat} (F : Fun K x qual st f fd) (S : FnScope N ps (defScope st))
    (hps : c.ps.length = ps.length) (hn : c.n = N.length)
    (hb : ∀ (cdv : Value) (A : Around) (outer : List Env) (s : Shared) (H : Hp) (E : XK) (β : Nat → Addr), Room k (cxOf (L2.CX P w) P w K mg base N qual (defScope st) f cdv A outer s H E).A →
      XSs (cxOf (L2.CX P w) P w K mg base N qual (defScope st) f cdv A outer s H E) (wOf E β) (defBody st) (c.body cf)) : FnOk P w K mg base (L2.CX P w) (k + 1) f fd ps (spF ⟨K, mg⟩ (runFn c cf)) := by
  have hpl : ps.length ≤ N.length := by have := congrArg List.length S.pre; rw [List.length_take] at this; omega
  refine F.okX S (fun vs H Q E h => ?_) fun cdv A outer s H vs Q E hr h => ?_
  · obtain ⟨Z, as, β, rE, h⟩ := h
    by_cases hl : as.length = c.ps.length
    · have hlen := rE.len
      rw [List.length_map] at hlen
      exact (hlen.symm.trans hl).trans hps
    · rw [show runFn c cf as = .no from if_neg hl] at h; exact h.elim
  · obtain ⟨Z, as, β, rE, h⟩ := h
    by_cases hl : as.length = c.ps.length
    · rw [show runFn c cf as = finish as (c.body cf (enter as c.n)) from if_pos hl] at h
      have hlen := rE.len
      rw [List.length_map] at hlen
      have hv : vs.length = ps.length := (hlen.symm.trans hl).trans hps
      refine ⟨_, hb cdv A outer s H E (adrs vs) hr, Z, enter as N.length, enter_rep (g := ⟨K, mg⟩) rE (by omega), ?_⟩
      refine finish_ok (g := ⟨K, mg⟩) rE (by omega) rfl (fun cls d σ H h => h) ?_
      rw [← hn]
      exact h
    · rw [show runFn c cf as = .no from if_neg hl] at h; exact h.elim
end
end Ev
end P_Ev11

section P_Ev12
set_option Elab.async false
set_option linter.all false
set_option maxRecDepth 100000
/-! Ev12: operators in place, and more operators. -/
namespace Ev
open PySem L2 PySem.Spec
open PyProof.Rows hiding St
set_option autoImplicit false
def iaddF : T → T → Option Vw
  | .int i, .int j => some (.v (.int (i + j)))
  | _, _ => none
section
variable {X : Cx} {K : KB}
theorem s_iadd : OpS K (rI0 fun i j => .int (i + j)) iaddF := s_int0 (fun i j w e => by injection e with e; subst e; exact fun _ _ _ => .sc fun _ => .int _) fun s t w e => by cases s <;> cases t <;> first | exact ⟨_, _, rfl, rfl⟩ | cases e
theorem in_addA : InOp X .Add (rI0 fun i j => .int (i + j)) := iop_add
theorem in_subA : InOp X .Sub (rI0 fun i j => .int (i - j)) := iop_sub
theorem ip_addA : PIp X .Add (rI0 fun i j => .int (i + j)) := iop_add
theorem ip_subA : PIp X .Sub (rI0 fun i j => .int (i - j)) := iop_sub
end
end Ev
end P_Ev12

noncomputable section P_Ev13
set_option Elab.async false
set_option linter.all false
set_option maxRecDepth 100000
/-! Ev13: wider powers and shifts, membership, extend, sorted, constants of the module. -/
namespace Ev
open PySem L2 PySem.Spec
open PyProof.Rows hiding St
set_option autoImplicit false
section
variable {X : Cx} {K : KB}
/-! ### powers, shifts, bits -/
def CPowX (i j : Int) : Prop := 0 ≤ j ∧ (Builtin.Int.intBits i : Int) * j ≤ 134217728
instance (i j : Int) : Decidable (CPowX i j) := by unfold CPowX; exact inferInstance
def CShl (i j : Int) : Prop := 0 ≤ j ∧ (Builtin.Int.intBits i : Int) + j ≤ 134217728
instance (i j : Int) : Decidable (CShl i j) := by unfold CShl; exact inferInstance
theorem op_powX : OpR X (binaryOp .Pow) (rI CPowX fun i j => .int (i ^ j.toNat)) := opI fun _ _ _ _ _ _ _ hc q => pow_int hc.1 (by have := hc.2; omega) q
theorem op_shlX : OpR X (binaryOp .LShift) (rI CShl fun i j => .int (i * 2 ^ j.toNat)) := opI fun _ _ _ _ _ _ _ hc q => lshift_int hc.1 (by have := hc.2; omega) q
def powXF : T → T → Option Vw
  | .int i, .int j => if CPowX i j then some (.v (.int (i ^ j.toNat))) else none
  | _, _ => none
def shlF : T → T → Option Vw
  | .int i, .int j => if CShl i j then some (.v (.int (i * 2 ^ j.toNat))) else none
  | _, _ => none
def shrF : T → T → Option Vw
  | .int i, .int j => if 0 ≤ j then some (.v (.int (i / 2 ^ j.toNat))) else none
  | _, _ => none
def bandF : T → T → Option Vw
  | .int i, .int j => some (.v (.int (Builtin.bitAnd i j)))
  | _, _ => none
def borF : T → T → Option Vw
  | .int i, .int j => some (.v (.int (Builtin.bitOr i j)))
  | _, _ => none
theorem s_powX : OpS K (rI CPowX fun i j => .int (i ^ j.toNat)) powXF := s_int (fun i j w e => by
  simp only [powXF] at e; split at e
  · rename_i h; injection e with e; subst e; exact ⟨h, fun _ _ _ => .sc fun _ => .int _⟩
  · cases e) fun s t w e => by cases s <;> cases t <;> first | exact ⟨_, _, rfl, rfl⟩ | cases e
theorem s_shl : OpS K (rI CShl fun i j => .int (i * 2 ^ j.toNat)) shlF := s_int (fun i j w e => by
  simp only [shlF] at e; split at e
  · rename_i h; injection e with e; subst e; exact ⟨h, fun _ _ _ => .sc fun _ => .int _⟩
  · cases e) fun s t w e => by cases s <;> cases t <;> first | exact ⟨_, _, rfl, rfl⟩ | cases e
theorem s_shr : OpS K (rI (fun _ j => 0 ≤ j) fun i j => .int (i / 2 ^ j.toNat)) shrF := s_int (fun i j w e => by
  simp only [shrF] at e; split at e
  · rename_i h; injection e with e; subst e; exact ⟨h, fun _ _ _ => .sc fun _ => .int _⟩
  · cases e) fun s t w e => by cases s <;> cases t <;> first | exact ⟨_, _, rfl, rfl⟩ | cases e
theorem s_band : OpS K (rI0 fun i j => .int (Builtin.bitAnd i j)) bandF := s_int0 (fun i j w e => by injection e with e; subst e; exact fun _ _ _ => .sc fun _ => .int _) fun s t w e => by cases s <;> cases t <;> first | exact ⟨_, _, rfl, rfl⟩ | cases e
theorem s_bor : OpS K (rI0 fun i j => .int (Builtin.bitOr i j)) borF := s_int0 (fun i j w e => by injection e with e; subst e; exact fun _ _ _ => .sc fun _ => .int _) fun s t w e => by cases s <;> cases t <;> first | exact ⟨_, _, rfl, rfl⟩ | cases e

/-! ### membership among flat things -/
def flatT : T → Bool
  | .none => true
  | .bool _ => true
  | .int _ => true
  | .str _ => true
  | _ => false
def eqFT : T → T → Bool
  | .none, .none => true
  | .bool a, .bool b => a == b
  | .bool a, .int b => (if a then 1 else 0) == b
  | .int a, .bool b => a == (if b then 1 else 0)
  | .int a, .int b => a == b
  | .str a, .str b => a == b
  | _, _ => false
def inT (s : T) (ts : List T) : Option Bool := if flatT s && ts.all flatT then some (ts.any fun t => eqFT t s) else none
def seqT : T → Option (List T)
  | .list ts => some ts
  | .tuple ts => some ts
  | .ro ts => some ts
  | _ => none
def inF (s t : T) : Option Vw := (seqT t).bind fun ts => (inT s ts).map fun b => .v (.bool b)
def ninF (s t : T) : Option Vw := (seqT t).bind fun ts => (inT s ts).map fun b => .v (.bool (!b))
theorem flat_rp {k : PySem.W.Frag} {H : Hp} {v : V} {t : T} (h : Rp k H v t) (f : flatT t = true) : flatV v = true ∧ ∀ (w : V) (u : T), Rp k H w u → flatT u = true → eqV v w = eqFT t u := by
  cases h with
  | non => exact ⟨rfl, fun w u h f => by cases h <;> first | rfl | cases f⟩
  | bl b => exact ⟨rfl, fun w u h f => by cases h <;> first | rfl | cases f⟩
  | int i => exact ⟨rfl, fun w u h f => by cases h <;> first | rfl | cases f⟩
  | str x => exact ⟨rfl, fun w u h f => by cases h <;> first | rfl | cases f⟩
  | _ => cases f
theorem flat_rp1 {G H : Hp} {v : V} {t : T} (h : Rp1 K G H v t) (f : flatT t = true) : Rp K.K G v t := by
  cases h <;> first | (exact .non) | (exact .bl _) | (exact .int _) | (exact .str _) | cases f
theorem flat_rpL {k : PySem.W.Frag} {H : Hp} {v : V} {t : T} (hv : Rp k H v t) (fv : flatT t = true) : ∀ {vs : List V} {ts : List T}, RpL k H vs ts → ts.all flatT = true → vs.all flatV = true ∧ inV v vs = ts.any fun u => eqFT u t
  | _, _, .nil, _ => ⟨rfl, rfl⟩
  | _, _, .cons h r, f => by
    rw [List.all_cons, Bool.and_eq_true] at f
    obtain ⟨h1, h2⟩ := flat_rp h f.1
    obtain ⟨h3, h4⟩ := flat_rpL hv fv r f.2
    refine ⟨by rw [List.all_cons, h1, h3]; rfl, ?_⟩
    unfold inV at h4 ⊢
    rw [List.any_cons, List.any_cons, h4, h2 v t hv fv]
theorem seq_rp1 {G H : Hp} {y : V} {t : T} {ts : List T} (sm : Same G H) (h : Rp1 K G H y t) (e : seqT t = some ts) : ∃ p xs, y = .ref p ∧ (SqL K.K H p xs ∨ SqT K.K H p xs) ∧ RpL K.K G xs ts := by
  cases h with
  | lst a r => cases e; exact ⟨_, _, rfl, .inl (SqL.of a), r⟩
  | ro a r => cases e; exact ⟨_, _, rfl, .inl a, r⟩
  | tup a r => cases e; exact ⟨_, _, rfl, .inr (sqT_mono sm a), r⟩
  | _ => cases e
theorem s_in : OpS K (rIn K.K false) inF := by
  intro G H x y s t w Q sm hx hy e k
  unfold inF at e
  cases q : seqT t with
  | none => rw [q] at e; cases e
  | some ts =>
    rw [q] at e
    obtain ⟨p, xs, rfl, hs, r⟩ := seq_rp1 sm hy q
    simp only [Option.bind_some, inT] at e
    split at e
    · rename_i f
      rw [Bool.and_eq_true] at f
      cases e
      have hx' := flat_rp1 hx f.1
      obtain ⟨h1, h2⟩ := flat_rpL hx' f.1 r f.2
      exact ⟨p, xs, rfl, hs, (flat_rp hx' f.1).1, h1, by rw [if_neg (by decide), h2]; exact k _ _ (.sc fun _ => .bl _)⟩
    · cases e
theorem s_nin : OpS K (rIn K.K true) ninF := by
  intro G H x y s t w Q sm hx hy e k
  unfold ninF at e
  cases q : seqT t with
  | none => rw [q] at e; cases e
  | some ts =>
    rw [q] at e
    obtain ⟨p, xs, rfl, hs, r⟩ := seq_rp1 sm hy q
    simp only [Option.bind_some, inT] at e
    split at e
    · rename_i f
      rw [Bool.and_eq_true] at f
      cases e
      have hx' := flat_rp1 hx f.1
      obtain ⟨h1, h2⟩ := flat_rpL hx' f.1 r f.2
      exact ⟨p, xs, rfl, hs, (flat_rp hx' f.1).1, h1, by rw [if_pos rfl, h2]; exact k _ _ (.sc fun _ => .bl _)⟩
    · cases e
/-! ### extend -/
set_option maxRecDepth 8000 in
theorem ext_tup (l : Addr) (items : Array Value) (n : Nat) (b : Addr) (items2 : Array Value) (n2 : Nat) (d : Option Addr) (sl : Array (Option Value)) (hs0 : ¬(!items.isEmpty && Builtin.List.listTooLong (items.size + items2.size)) = true) (hs1 : items.size ≤ sizeLine) (hs2 : items.size + items2.size ≤ sizeLine + 1) :
    Meets (Builtin.«list.extend» ⟨[.ref l, .ref b], []⟩) (fun _ R s => s.heap.get? l = some { cls := .type "list", dict := none, data := .seq items n, slots := #[] } ∧ s.heap.get? b = some { cls := .type "tuple", dict := d, data := .seq items2 n2, slots := sl } ∧ R (.ok (.ret Value.none)) { s with heap := s.heap.update l (Obj.mapSeq fun x => x ++ items2), toks := s.toks }) :=
  .of_wp fun prog w A R s h => by
    obtain ⟨hp, g, dr, tk, os⟩ := s; obtain ⟨hl, hb, h⟩ := h; have f1 := AutoSeq1.idx_int; have f2 := AutoSeq1.sub_tuple_tuple; have f3 := AutoSeq1.sub_list_list; have f4 := AutoSeq1.sub_tuple_list; have f5 := AutoSeq1.sub_list_tuple
    have hz' : (items ++ items2).size ≤ sizeLine + 1 := by rw [Array.size_append]; exact hs2
    wp_walk using (wpAny_updateSeq hl rfl (hz := hs1) (_hz' := hz')), AutoSeq1.wpAny_loadPart' hl, AutoSeq1.wpAny_loadPart' hb; exact ⟨_, rfl, h⟩
set_option maxRecDepth 8000 in
theorem ext_lst (l : Addr) (items : Array Value) (n : Nat) (b : Addr) (items2 : Array Value) (n2 : Nat) (d : Option Addr) (sl : Array (Option Value)) (hs0 : ¬(!items.isEmpty && Builtin.List.listTooLong (items.size + items2.size)) = true) (hs1 : items.size ≤ sizeLine) (hs2 : items.size + items2.size ≤ sizeLine + 1) :
    Meets (Builtin.«list.extend» ⟨[.ref l, .ref b], []⟩) (fun _ R s => s.heap.get? l = some { cls := .type "list", dict := none, data := .seq items n, slots := #[] } ∧ s.heap.get? b = some { cls := .type "list", dict := d, data := .seq items2 n2, slots := sl } ∧ R (.ok (.ret Value.none)) { s with heap := s.heap.update l (Obj.mapSeq fun x => x ++ items2), toks := s.toks }) :=
  .of_wp fun prog w A R s h => by
    obtain ⟨hp, g, dr, tk, os⟩ := s; obtain ⟨hl, hb, h⟩ := h; have f1 := AutoSeq1.idx_int; have f2 := AutoSeq1.sub_tuple_tuple; have f3 := AutoSeq1.sub_list_list; have f4 := AutoSeq1.sub_tuple_list; have f5 := AutoSeq1.sub_list_tuple
    have hz' : (items ++ items2).size ≤ sizeLine + 1 := by rw [Array.size_append]; exact hs2
    wp_walk using (wpAny_updateSeq hl rfl (hz := hs1) (_hz' := hz')), AutoSeq1.wpAny_loadPart' hl, AutoSeq1.wpAny_loadPart' hb; exact ⟨_, rfl, h⟩
def rExtA (K : PySem.W.Frag) : V → List V → Hp → VK → Prop := fun x vs H Q => ∃ l b xs zs, x = .ref l ∧ vs = [.ref b] ∧ H l = some (.lst xs) ∧ (SqL K H b zs ∨ SqT K H b zs) ∧ xs.length + zs.length ≤ sizeLine ∧ Q .non (upd H l (.lst (xs ++ zs)))
theorem mt_extA : MtM X "list.extend" (rExtA X.K) := by
  intro pins s σ H x vs v us Q I rx rv h
  obtain ⟨l, b, xs, zs, rfl, rfl, hH, hB, hz, q⟩ := h
  cases rx
  obtain ⟨u, rfl, ru⟩ := rv.one
  cases ru
  obtain ⟨z, its, n, r, hl, e⟩ := I.lstM hH
  rcases hB with hB | hB
  · obtain ⟨its2, r2, ⟨o2, n2, e2, c2, d2, t2⟩, hz2⟩ := I.list hB
    have hl2 := r2.length
    obtain ⟨cls2, dict2, data2, slots2⟩ := o2
    dsimp only at c2 d2 t2
    subst c2 d2 t2
    have hsz : its.toArray.size + its2.toArray.size ≤ sizeLine := by rw [List.size_toArray, List.size_toArray]; omega
    have hlong : ¬ (!its.toArray.isEmpty && Builtin.List.listTooLong (its.toArray.size + its2.toArray.size)) = true := by
      rw [notLongL hsz, Bool.and_false]
      exact Bool.false_ne_true
    refine call_meets F.slot_list_extend ⟨_, e, rfl⟩ F.entry_list_extend (F.args_list_extend_2 _ _)
      (ext_lst l its.toArray n b its2.toArray n2 none slots2 hlong (by rw [List.size_toArray]; omega) (by omega)) ⟨e, e2, ?_⟩
    refine ⟨.non, _, I.lset (its' := its ++ its2) hH e (by simp) (r.append r2) ?_, rfl, q⟩
    rw [List.length_append]
    omega
  · obtain ⟨its2, r2, ⟨o2, e2, c2, n2, t2⟩, hz2⟩ := I.tuple hB
    have hl2 := r2.length
    obtain ⟨cls2, dict2, data2, slots2⟩ := o2
    dsimp only at c2 t2
    subst c2 t2
    have hsz : its.toArray.size + its2.toArray.size ≤ sizeLine := by rw [List.size_toArray, List.size_toArray]; omega
    have hlong : ¬ (!its.toArray.isEmpty && Builtin.List.listTooLong (its.toArray.size + its2.toArray.size)) = true := by
      rw [notLongL hsz, Bool.and_false]
      exact Bool.false_ne_true
    refine call_meets F.slot_list_extend ⟨_, e, rfl⟩ F.entry_list_extend (F.args_list_extend_2 _ _)
      (ext_tup l its.toArray n b its2.toArray n2 dict2 slots2 hlong (by rw [List.size_toArray]; omega) (by omega)) ⟨e, e2, ?_⟩
    refine ⟨.non, _, I.lset (its' := its ++ its2) hH e (by simp) (r.append r2) ?_, rfl, q⟩
    rw [List.length_append]
    omega
def extF : List T → Ob → Option (Ob × T)
  | [t], .lst ts => (seqT t).bind fun us => if ts.length + us.length ≤ sizeLine then some (.lst (ts ++ us), .none) else none
  | _, _ => none
theorem seq_rp {k : PySem.W.Frag} {G : Hp} {y : V} {t : T} {ts : List T} (h : Rp k G y t) (e : seqT t = some ts) : ∃ p xs, y = .ref p ∧ (SqL k G p xs ∨ SqT k G p xs) ∧ RpL k G xs ts := by
  cases h with
  | lst a r => cases e; exact ⟨_, _, rfl, .inl (SqL.of a), r⟩
  | ro a r => cases e; exact ⟨_, _, rfl, .inl a, r⟩
  | tup a r => cases e; exact ⟨_, _, rfl, .inr a, r⟩
  | _ => cases e
theorem s_ext : MeS K (rExtA K.K) extF := by
  intro G H a o o' xs ts t Q sm ho hx e k
  unfold extF at e
  split at e
  · rename_i t1 us1
    obtain ⟨vs, h1, h2⟩ := ho
    cases hx with
    | cons a1 r1 =>
      cases r1
      cases q : seqT t1 with
      | none => rw [q] at e; cases e
      | some ws =>
        rw [q] at e
        simp only [Option.bind_some] at e
        split at e
        · rename_i hz
          injection e with e; injection e with e1 e2; subst e1; subst e2
          obtain ⟨p, zs, rfl, hs, r⟩ := seq_rp a1 q
          exact ⟨_, _, _, _, rfl, rfl, h1, hs.imp (fun q => sm.seq q) (fun q => sqT_mono sm q), by rw [h2.length, r.length]; exact hz, k _ _ ⟨_, upd_same, h2.append r⟩ .non⟩
        · cases e
  · cases e
/-! ### constants of the module -/
/-- the module's name x stands for this -/
def Cst (k : PySem.W.Frag) (mg : PySem.Str → Option Value) (x : String) (t : T) : Prop := ∃ u v, mg (PySem.Str.ofString x) = some u ∧ RelV v u ∧ ∀ H, Rp k H v t
mutual
def repB (k : PySem.W.Frag) : Value → T → Bool
  | .none, .none => true
  | .bool b, .bool c => b == c
  | .int i _, .int j => decide (i = j)
  | .str x _, .str y => decide (x = y)
  | .ref a, .tuple ts => match k.lookup a with
    | some ⟨.type c, _, .seq its _, _⟩ => decide (c = "tuple") && (decide (its.size ≤ sizeLine) && repBs k its.toList ts)
    | _ => false
  | .ref a, .ro ts => match k.lookup a with
    | some ⟨.type c, none, .seq its _, _⟩ => decide (c = "list") && (decide (its.size ≤ sizeLine) && repBs k its.toList ts)
    | _ => false
  | _, _ => false
def repBs (k : PySem.W.Frag) : List Value → List T → Bool
  | [], [] => true
  | u :: us, t :: ts => repB k u t && repBs k us ts
  | _, _ => false
end
mutual
theorem repB_ok {k : PySem.W.Frag} : ∀ (t : T) (u : Value), repB k u t = true → ∃ v, RelV v u ∧ ∀ H, Rp k H v t
  | .none, u, h => by cases u <;> first | exact ⟨.non, rfl, fun _ => .non⟩ | (unfold repB at h; cases h)
  | .bool b, u, h => by
    cases u with
    | bool c =>
      unfold repB at h
      have e : c = b := eq_of_beq h
      subst e
      exact ⟨.bl _, rfl, fun _ => .bl _⟩
    | _ => unfold repB at h; cases h
  | .int i, u, h => by
    cases u with
    | int j t =>
      unfold repB at h
      have e : j = i := of_decide_eq_true h
      subst e
      exact ⟨.int _, ⟨t, rfl⟩, fun _ => .int _⟩
    | _ => unfold repB at h; cases h
  | .str x, u, h => by
    cases u with
    | str y t =>
      unfold repB at h
      have e : y = x := of_decide_eq_true h
      subst e
      exact ⟨.str _, ⟨t, rfl⟩, fun _ => .str _⟩
    | _ => unfold repB at h; cases h
  | .tuple ts, u, h => by
    cases u with
    | ref a =>
      unfold repB at h
      cases q : k.lookup a with
      | none => rw [q] at h; cases h
      | some o =>
        obtain ⟨oc, od, dt, osl⟩ := o
        rw [q] at h
        cases oc with
        | type c =>
          cases dt with
          | seq its n =>
            obtain ⟨h1, h2⟩ := He.ba h
            obtain ⟨h3, h4⟩ := He.ba h2
            obtain ⟨vs, r1, r2⟩ := repBs_ok ts its.toList h4
            exact ⟨.ref a, rfl, fun H => .tup (.inr ⟨_, its, n, q, congrArg Value.type (of_decide_eq_true h1), rfl, of_decide_eq_true h3, r1⟩) (r2 H)⟩
          | _ => cases h
        | _ => cases dt <;> cases h
    | _ => unfold repB at h; cases h
  | .ro ts, u, h => by
    cases u with
    | ref a =>
      unfold repB at h
      cases q : k.lookup a with
      | none => rw [q] at h; cases h
      | some o =>
        obtain ⟨oc, od, dt, osl⟩ := o
        rw [q] at h
        cases oc with
        | type c =>
          cases od with
          | none =>
            cases dt with
            | seq its n =>
              obtain ⟨h1, h2⟩ := He.ba h
              obtain ⟨h3, h4⟩ := He.ba h2
              obtain ⟨vs, r1, r2⟩ := repBs_ok ts its.toList h4
              exact ⟨.ref a, rfl, fun H => .ro (.inr ⟨_, its, n, q, congrArg Value.type (of_decide_eq_true h1), rfl, rfl, of_decide_eq_true h3, r1⟩) (r2 H)⟩
            | _ => cases h
          | some b => cases dt <;> cases h
        | _ => cases od <;> cases dt <;> cases h
    | _ => unfold repB at h; cases h
  | .list _, u, h => by cases u <;> (unfold repB at h; cases h)
  | .dict _, u, h => by cases u <;> (unfold repB at h; cases h)
  | .fn _, u, h => by cases u <;> (unfold repB at h; cases h)
theorem repBs_ok {k : PySem.W.Frag} : ∀ (ts : List T) (us : List Value), repBs k us ts = true → ∃ vs, Vals vs us ∧ ∀ H, RpL k H vs ts
  | [], [], _ => ⟨[], .nil, fun _ => .nil⟩
  | [], _ :: _, h => by unfold repBs at h; cases h
  | _ :: _, [], h => by unfold repBs at h; cases h
  | t :: ts, u :: us, h => by
    unfold repBs at h
    obtain ⟨h1, h2⟩ := He.ba h
    obtain ⟨v, r1, r2⟩ := repB_ok t u h1
    obtain ⟨vs, r3, r4⟩ := repBs_ok ts us h2
    exact ⟨v :: vs, .cons r1 r3, fun H => .cons (r2 H) (r4 H)⟩
end
def cstB (x : String) (t : T) (k : PySem.W.Frag) : Bool := match PySem.W.nsIn k mainGlobals (PySem.Str.ofString x) with
  | some (some u) => repB k u t
  | _ => false
theorem cstB_ok {k : PySem.W.Frag} {h : Heap} {mg : PySem.Str → Option Value} (Y : k.In h) (G : h.Ns mainGlobals mg) {x : String} {t : T} (c : cstB x t k = true) : Cst k mg x t := by
  unfold cstB at c
  cases q : PySem.W.nsIn k mainGlobals (PySem.Str.ofString x) with
  | none => rw [q] at c; cases c
  | some r =>
    rw [q] at c
    cases r with
    | none => cases c
    | some u =>
      obtain ⟨v, r1, r2⟩ := repB_ok t u c
      exact ⟨u, v, PySem.W.mg_of Y G q, r1, r2⟩
theorem xcst {W : WB} {x : String} {t : T} {pos : Pos} (hg : Gl X (PySem.Str.ofString x)) (h : Cst X.K X.mg x t) (hd : (PySem.Str.ofString x == ("__debug__" : Str)) = false := by decide) : XE X W (.Name (PySem.Str.ofString x) pos) (mK t) := by
  obtain ⟨u, v, h1, h2, h3⟩ := h
  exact (pe_glob hg h1 h2 hd).weak fun σ H Q ⟨Z, env, rE, h⟩ => h v H Z rE.post Kp.refl (h3 _)
/-! ### dicts of the module with text keys -/
def lookS (kvs : List (PySem.Str × T)) (z : PySem.Str) : Option T := match kvs with
  | [] => none
  | (x, t) :: r => if x = z then some t else lookS r z
def entsB (k : PySem.W.Frag) : List DictEntry → List (PySem.Str × T) → Bool
  | [], [] => true
  | e :: es, (x, t) :: r => (match e.key with
    | .str y _ => decide (y = x) && repB k e.val t
    | _ => false) && entsB k es r
  | _, _ => false
theorem entsB_ok {k : PySem.W.Frag} (z : PySem.Str) : ∀ (es : List DictEntry) (kvs : List (PySem.Str × T)), entsB k es kvs = true → es.any (·.refKey) = false ∧
    ((es.find? (·.key.isStr z) = none ∧ lookS kvs z = none) ∨ ∃ e t v, es.find? (·.key.isStr z) = some e ∧ lookS kvs z = some t ∧ RelV v e.val ∧ ∀ H, Rp k H v t)
  | [], [], _ => ⟨rfl, .inl ⟨rfl, rfl⟩⟩
  | [], _ :: _, h => by unfold entsB at h; cases h
  | _ :: _, [], h => by unfold entsB at h; cases h
  | e :: es, (x, t) :: r, h => by
    unfold entsB at h
    obtain ⟨h1, h2⟩ := He.ba h
    obtain ⟨h3, h4⟩ := entsB_ok z es r h2
    obtain ⟨hash, key, val⟩ := e
    cases key with
    | str y tk =>
      obtain ⟨h5, h6⟩ := He.ba h1
      have e1 : y = x := of_decide_eq_true h5
      subst e1
      obtain ⟨v, r1, r2⟩ := repB_ok t val h6
      refine ⟨by rw [List.any_cons, h3]; rfl, ?_⟩
      by_cases c : y = z
      · subst c
        refine .inr ⟨_, t, v, List.find?_cons_of_pos (by simp [Value.isStr]), by simp [lookS], r1, r2⟩
      · rw [List.find?_cons_of_neg (by simp [Value.isStr, c])]
        simp only [lookS, if_neg c]
        exact h4
    | _ => cases h1
/-- the module's name x stands for a dict with these text keys -/
def CstD (k : PySem.W.Frag) (w : World) (mg : PySem.Str → Option Value) (x : String) (kvs : List (PySem.Str × T)) : Prop := ∃ d es n, mg (PySem.Str.ofString x) = some (.ref d) ∧ KDict k w d es n ∧
  ∀ z, (PySem.W.nsIn k d z = some none ∧ lookS kvs z = none) ∨ ∃ u t v, PySem.W.nsIn k d z = some (some u) ∧ lookS kvs z = some t ∧ RelV v u ∧ ∀ H, Rp k H v t
def cdB (x : String) (kvs : List (PySem.Str × T)) (k : PySem.W.Frag) : Bool := He.eqO (PySem.W.nsIn k mainGlobals (PySem.Str.ofString x)) (some (some (.ref (He.ga k (PySem.Str.ofString x))))) && match k.lookup (He.ga k (PySem.Str.ofString x)) with
  | some ⟨_, _, .dict es _, _⟩ => entsB k es.toList kvs
  | _ => false
theorem cdB_ok {k : PySem.W.Frag} {w : World} {h : Heap} {mg : PySem.Str → Option Value} (Y : k.In h) (G : h.Ns mainGlobals mg) {x : String} {kvs : List (PySem.Str × T)} (c : cdB x kvs k = true) (D : ∃ es n, KDict k w (He.ga k (PySem.Str.ofString x)) es n) : CstD k w mg x kvs := by
  obtain ⟨c1, c2⟩ := He.ba c
  obtain ⟨es, n, D⟩ := D
  refine ⟨_, es, n, PySem.W.mg_of Y G (He.eqO_ok c1), D, fun z => ?_⟩
  rw [D.at_] at c2
  obtain ⟨h1, h2⟩ := entsB_ok z es.toList kvs c2
  unfold PySem.W.nsIn
  rw [D.at_]
  rcases h2 with ⟨h3, h4⟩ | ⟨e, t, v, h3, h4, h5, h6⟩
  · refine .inl ⟨?_, h4⟩
    show (match es.toList.find? (·.key.isStr z) with | some e => some (some e.val) | none => if es.toList.any (·.refKey) then none else some none) = _
    rw [h3, h1]
    rfl
  · refine .inr ⟨e.val, t, v, ?_, h4, h5, h6⟩
    show (match es.toList.find? (·.key.isStr z) with | some e => some (some e.val) | none => if es.toList.any (·.refKey) then none else some none) = _
    rw [h3]
def cinF (kvs : List (PySem.Str × T)) : T → Option Vw
  | .str z => some (.v (.bool (lookS kvs z).isSome))
  | _ => none
def cninF (kvs : List (PySem.Str × T)) : T → Option Vw
  | .str z => some (.v (.bool (!(lookS kvs z).isSome)))
  | _ => none
def cgetF (kvs : List (PySem.Str × T)) : T → Option Vw
  | .str z => (lookS kvs z).map .v
  | _ => none
section
variable {W : WB} {x : String} {kvs : List (PySem.Str × T)} {a : Expr} {A : M Vw} {p pos : Pos}
theorem s_cin {w : World} {mg : PySem.Str → Option Value} (h : CstD K.K w mg x kvs) {d : Addr} (hd : mg (PySem.Str.ofString x) = some (.ref d)) : UnS K (fun x H Q => ∃ (z : Str) (r : Option Value), x = .str z ∧ V.ref d = .ref d ∧ PySem.W.nsIn K.K d z = some r ∧ Q (.bl r.isSome) H) (cinF kvs) := by
  intro G H y s w' Q sm hx e k
  obtain ⟨d', es, n, h1, D, h2⟩ := h
  rw [hd] at h1; cases h1
  unfold cinF at e
  split at e
  · rename_i z
    cases e
    cases hx
    rcases h2 z with ⟨h3, h4⟩ | ⟨u, t, v, h3, h4, h5, h6⟩
    · exact ⟨z, none, rfl, rfl, h3, k _ _ (.sc fun _ => by rw [h4]; exact .bl _)⟩
    · exact ⟨z, some u, rfl, rfl, h3, k _ _ (.sc fun _ => by rw [h4]; exact .bl _)⟩
  · cases e
theorem s_cnin {w : World} {mg : PySem.Str → Option Value} (h : CstD K.K w mg x kvs) {d : Addr} (hd : mg (PySem.Str.ofString x) = some (.ref d)) : UnS K (fun x H Q => ∃ (z : Str) (r : Option Value), x = .str z ∧ V.ref d = .ref d ∧ PySem.W.nsIn K.K d z = some r ∧ Q (.bl (!r.isSome)) H) (cninF kvs) := by
  intro G H y s w' Q sm hx e k
  obtain ⟨d', es, n, h1, D, h2⟩ := h
  rw [hd] at h1; cases h1
  unfold cninF at e
  split at e
  · rename_i z
    cases e
    cases hx
    rcases h2 z with ⟨h3, h4⟩ | ⟨u, t, v, h3, h4, h5, h6⟩
    · exact ⟨z, none, rfl, rfl, h3, k _ _ (.sc fun _ => by rw [h4]; exact .bl _)⟩
    · exact ⟨z, some u, rfl, rfl, h3, k _ _ (.sc fun _ => by rw [h4]; exact .bl _)⟩
  · cases e
theorem s_cget {w : World} {mg : PySem.Str → Option Value} (h : CstD K.K w mg x kvs) {d : Addr} (hd : mg (PySem.Str.ofString x) = some (.ref d)) : UnS K (fun y H Q => rIxD K.K w (.ref d) y H Q) (cgetF kvs) := by
  intro G H y s w' Q sm hx e k
  obtain ⟨d', es, n, h1, D, h2⟩ := h
  rw [hd] at h1; cases h1
  unfold cgetF at e
  split at e
  · rename_i z
    cases hx
    rcases h2 z with ⟨h3, h4⟩ | ⟨u, t, v, h3, h4, h5, h6⟩
    · rw [h4] at e; cases e
    · rw [h4] at e; cases e
      exact ⟨d, z, v, rfl, rfl, ⟨es, n, u, D.at_, D.lit, h3, h5⟩, k _ _ (.old (h6 _))⟩
  · cases e
theorem xcin (h : CstD X.K X.w X.mg x kvs) (ha : XE X W a A) (hg : Gl X (PySem.Str.ofString x)) (hm : behindInMarks .In (.Name (PySem.Str.ofString x) p) = false := by rfl) (hd : (PySem.Str.ofString x == ("__debug__" : Str)) = false := by decide) :
    XE X W (.Compare a [.In] [.Name (PySem.Str.ofString x) p] pos) (mUn (cinF kvs) A) := by
  have h0 := h
  obtain ⟨d, es, n, h1, D, h2⟩ := h
  exact (pe_cmpR (op_in_kd D) ha (pe_glob (v := .ref d) hg h1 rfl hd) hm).weak fun _ _ _ q => rd_un (g := X.g) (s_cin (K := kb X.g W) h0 h1) q
theorem xcnin (h : CstD X.K X.w X.mg x kvs) (ha : XE X W a A) (hg : Gl X (PySem.Str.ofString x)) (hm : behindInMarks .NotIn (.Name (PySem.Str.ofString x) p) = false := by rfl) (hd : (PySem.Str.ofString x == ("__debug__" : Str)) = false := by decide) :
    XE X W (.Compare a [.NotIn] [.Name (PySem.Str.ofString x) p] pos) (mUn (cninF kvs) A) := by
  have h0 := h
  obtain ⟨d, es, n, h1, D, h2⟩ := h
  exact (pe_cmpR (op_notIn_kd D) ha (pe_glob (v := .ref d) hg h1 rfl hd) hm).weak fun _ _ _ q => rd_un (g := X.g) (s_cnin (K := kb X.g W) h0 h1) q
theorem xtcin (h : CstD X.K X.w X.mg x kvs) (ha : XE X W a A) (hg : Gl X (PySem.Str.ofString x)) (hm : behindInMarks .In (.Name (PySem.Str.ofString x) p) = false := by rfl) (hd : (PySem.Str.ofString x == ("__debug__" : Str)) = false := by decide) :
    XT X W (.Compare a [.In] [.Name (PySem.Str.ofString x) p] pos) (mTest (mUn (cinF kvs) A)) := by
  have h0 := h
  obtain ⟨d, es, n, h1, D, h2⟩ := h
  exact (pt_cmpR (op_in_kd D) ha (pe_glob (v := .ref d) hg h1 rfl hd) hm).weak fun _ _ _ => rd_test (g := X.g) fun _ _ _ q => rd_un (g := X.g) (s_cin (K := kb X.g W) h0 h1) q
theorem xtcnin (h : CstD X.K X.w X.mg x kvs) (ha : XE X W a A) (hg : Gl X (PySem.Str.ofString x)) (hm : behindInMarks .NotIn (.Name (PySem.Str.ofString x) p) = false := by rfl) (hd : (PySem.Str.ofString x == ("__debug__" : Str)) = false := by decide) :
    XT X W (.Compare a [.NotIn] [.Name (PySem.Str.ofString x) p] pos) (mTest (mUn (cninF kvs) A)) := by
  have h0 := h
  obtain ⟨d, es, n, h1, D, h2⟩ := h
  exact (pt_cmpR (op_notIn_kd D) ha (pe_glob (v := .ref d) hg h1 rfl hd) hm).weak fun _ _ _ => rd_test (g := X.g) fun _ _ _ q => rd_un (g := X.g) (s_cnin (K := kb X.g W) h0 h1) q
theorem xcget (h : CstD X.K X.w X.mg x kvs) (hs : PlainIx a) (ha : XE X W a A) (hg : Gl X (PySem.Str.ofString x)) (hd : (PySem.Str.ofString x == ("__debug__" : Str)) = false := by decide) :
    XE X W (.Subscript (.Name (PySem.Str.ofString x) p) a pos) (mUn (cgetF kvs) A) := by
  have h0 := h
  obtain ⟨d, es, n, h1, D, h2⟩ := h
  exact (pe_ix ix_kdict (pe_glob (v := .ref d) hg h1 rfl hd) ha hs).weak fun _ _ _ q => rd_un (g := X.g) (s_cget (K := kb X.g W) h0 h1) q
end
end
end Ev
end P_Ev13

noncomputable section P_Ev14
set_option Elab.async false
set_option linter.all false
set_option maxRecDepth 100000
/-! Ev14: repr, texts. -/
namespace Ev
open PySem L2 PySem.Spec
open PyProof.Rows hiding St
set_option autoImplicit false
section
variable {X : Cx} {K : KB}
/-! ### repr of lists and tuples -/
def RepOk (d : PyData) : Prop := d.showable = true ∧ d.hasDict = false ∧ d.depth ≤ 60 ∧ d.shown.length ≤ sizeLine
def rRepr (k : PySem.W.Frag) : List V → Hp → VK → Prop := fun vs H Q => ∃ a d, vs = [V.ref a] ∧ Dp k H (.ref a) d ∧ RepOk d ∧ Q (.str d.shown) H
theorem cr_repr (hg : X.A.guards = some []) (hu : X.A.units + 64 < cLine) : CallR X (.builtin "repr") (rRepr X.K) := by
  intro pins s σ H vs us Q I r h
  obtain ⟨a, d, rfl, hd, ⟨h1, h2, h3, h4⟩, q⟩ := h
  rw [Vals.ref1 r]
  obtain ⟨as, rd⟩ := Dp.reads I d (.ref a) (.ref a) hd rfl
  exact repr_of_reads' rd h1 (fun z => by rw [h2] at z; cases z) hg (by omega) (fun _ _ z => z) (fun h' u tk kp => ⟨.str d.shown, H, I.kept kp, ⟨u, rfl⟩, q⟩) h4
instance (d : PyData) : Decidable (RepOk d) := by unfold RepOk; exact inferInstance
def reprF : List T → Option Vw
  | [.list ts] => (T.pyO (.list ts)).bind fun d => if RepOk d then some (.v (.str d.shown)) else none
  | [.tuple ts] => (T.pyO (.tuple ts)).bind fun d => if RepOk d then some (.v (.str d.shown)) else none
  | _ => none
theorem s_repr : CaS K (rRepr K.K) reprF := by
  intro G H xs ts w Q sm hx e k
  unfold reprF at e
  split at e
  · obtain ⟨x, rfl, h⟩ := hx.one
    rename_i us
    cases q : T.pyO (.list us) with
    | none => rw [q] at e; cases e
    | some d =>
      rw [q] at e
      simp only [Option.bind_some] at e
      split at e
      · rename_i ok
        cases e
        have dp := (h.rp sm).dp _ _ _ q
        cases h with
        | lst a r => exact ⟨_, d, rfl, dp, ok, k _ _ (.sc fun _ => .str _)⟩
      · cases e
  · obtain ⟨x, rfl, h⟩ := hx.one
    rename_i us
    cases q : T.pyO (.tuple us) with
    | none => rw [q] at e; cases e
    | some d =>
      rw [q] at e
      simp only [Option.bind_some] at e
      split at e
      · rename_i ok
        cases e
        have dp := (h.rp sm).dp _ _ _ q
        cases h with
        | tup a r => exact ⟨_, d, rfl, dp, ok, k _ _ (.sc fun _ => .str _)⟩
      · cases e
  · cases e
/-! ### texts -/
def strF : List T → Option Vw
  | [.int i] => if i.natAbs.log2 < 1920 then some (.v (.str (toString i))) else none
  | [.str a] => some (.v (.str a))
  | _ => none
abbrev rStr : List V → Hp → VK → Prop := fun xs H Q => (∃ i, xs = [V.int i] ∧ i.natAbs.log2 < 1920 ∧ Q (.str (toString i)) H) ∨ ∃ a, xs = [V.str a] ∧ Q (.str a) H
theorem call_strA : CallR X (.type "str") rStr := by
  intro pins s σ H vs us Q I r h
  rcases h with h | h
  · exact call_str_int pins s σ H vs us Q I r h
  · exact SkE.call_str_str pins s σ H vs us Q I r h
theorem s_str : CaS K rStr strF := by
  intro G H xs ts w Q sm hx e k
  unfold strF at e
  split at e
  · obtain ⟨x, rfl, h⟩ := hx.one
    cases h
    split at e
    · rename_i hz; cases e; exact .inl ⟨_, rfl, hz, k _ _ (.sc fun _ => .str _)⟩
    · cases e
  · obtain ⟨x, rfl, h⟩ := hx.one
    cases h; cases e; exact .inr ⟨_, rfl, k _ _ (.sc fun _ => .str _)⟩
  · cases e
def strsOf : List T → Option (List PySem.Str)
  | [] => some []
  | .str a :: r => (strsOf r).map fun l => a :: l
  | _ :: _ => none
def joinF : T → T → Option Vw
  | .str a, t => (seqT t).bind fun ts => (strsOf ts).bind fun ys => if (ys.map (·.length)).sum + ys.length * a.length ≤ 16777216 then some (.v (.str (Txt.join a ys))) else none
  | _, _ => none
theorem strs_rp {k : PySem.W.Frag} {G : Hp} : ∀ {vs : List V} {ts : List T} {ys : List PySem.Str}, RpL k G vs ts → strsOf ts = some ys → vs = ys.map V.str
  | _, _, _, .nil, e => by cases e; rfl
  | _, _, _, .cons (d := d) (ds := ds) h r, e => by
    cases h with
    | str x =>
      simp only [strsOf] at e
      cases q : strsOf ds with
      | none => rw [q] at e; cases e
      | some l =>
        rw [q] at e; cases e
        rw [strs_rp r q]; rfl
    | _ => cases e
theorem s_join : OpS K (fun x y H Q => ∃ a p, ∃ ys : List PySem.Str, x = .str a ∧ [y] = [V.ref p] ∧ (SqL K.K H p (ys.map V.str) ∨ SqT K.K H p (ys.map V.str)) ∧ (ys.map (·.length)).sum + ys.length * a.length ≤ 16777216 ∧ Q (.str (Txt.join a ys)) H) joinF := by
  intro G H x y s t w Q sm hx hy e k
  unfold joinF at e
  split at e
  · cases hx
    rename_i a
    cases q : seqT t with
    | none => rw [q] at e; cases e
    | some ts =>
      rw [q] at e
      simp only [Option.bind_some] at e
      obtain ⟨p, xs, rfl, hs, r⟩ := seq_rp1 sm hy q
      cases q2 : strsOf ts with
      | none => rw [q2] at e; cases e
      | some ys =>
        rw [q2] at e
        simp only [Option.bind_some] at e
        split at e
        · rename_i hz
          cases e
          rw [strs_rp r q2] at hs
          exact ⟨a, p, ys, rfl, rfl, hs, hz, k _ _ (.sc fun _ => .str _)⟩
        · cases e
  · cases e
/-- s.m(e): the text first -/
def mTm1 (f : T → T → Option Vw) (A B : M Vw) : M Vw := A.bind fun a => (lk a).bind fun s => match s with
  | .str z => B.bind fun b => (lk b).bind fun t => opt (f (.str z) t)
  | _ => fun _ => .no
theorem rd_tm1 {g : Gk} {W : WB} {σ : St} {H : Hp} {r : V → List V → Hp → VK → Prop} {f : T → T → Option Vw} (hs : OpS (kb g W) (fun x y H Q => r x [y] H Q) f) {A B : M Vw} {Q : VK} (h : tE g W (mTm1 f A B) σ H Q) : tM1 r (tE g W A) (tE g W B) σ H Q := by
  obtain ⟨Z, env, rE, h⟩ := h
  refine ⟨Z, env, rE, (Out.ct.bind h).mono fun x H1 ⟨Z1, env1, a, p1, k1, l1, c1⟩ => ?_⟩
  cases ea : look a env1 with
  | none => rw [lk_none ea] at c1; exact c1.elim
  | some s =>
    rw [lk_some ea] at c1
    have q := l1.look p1.rep ea
    cases s with
    | str z =>
      cases q
      refine ⟨⟨z, rfl⟩, Z1, env1, p1.rep, (Out.ct.bind c1).mono fun y H2 ⟨Z2, env2, b, p2, k2, l2, c2⟩ => ?_⟩
      cases eb : look b env2 with
      | none => rw [lk_none eb] at c2; exact c2.elim
      | some t =>
        rw [lk_some eb] at c2
        unfold opt at c2
        cases ef : f (.str z) t with
        | none => rw [ef] at c2; exact c2.elim
        | some w =>
          rw [ef] at c2
          exact hs hid_le (.str z) (l2.look1 p2.rep eb) ef fun z H' n => Out.made c2 p2.rep n
    | _ => exact c1.elim
theorem xjoin {W : WB} {o e : Expr} {A B : M Vw} {apos pos : Pos} (ho : XE X W o A) (he : XE X W e B) (hs : starEach [e] X.env = [(false, eval e X.env)] := by rfl) (hbase : attributeBase o "join" X.env (eval o X.env) = eval o X.env := by rfl) (hline : (apos.endLine == pos.line) = true := by rfl) :
    XE X W (.Call (.Attribute o "join" apos) [e] [] pos) (mTm1 joinF A B) := (pe_join ho he hs hbase hline).weak fun _ _ _ => rd_tm1 (g := X.g) s_join
/-! ### f-strings -/
def fmtF : T → Option Vw
  | .str y => if y.length ≤ sizeLine then some (.v (.str y)) else none
  | .int i => if i.natAbs.log2 < 1920 then some (.v (.str (toString i))) else none
  | _ => none
abbrev rFmt : V → Hp → VK → Prop := fun x H Q => (∃ y : PySem.Str, x = .str y ∧ y.length ≤ sizeLine ∧ Q (.str y) H) ∨ ∃ i : Int, x = .int i ∧ i.natAbs.log2 < 1920 ∧ Q (.str (toString i)) H
theorem s_fmt : UnS K rFmt fmtF := by
  intro G H x s w Q sm hx e k
  unfold fmtF at e
  split at e
  · cases hx
    split at e
    · rename_i hz; cases e; exact .inl ⟨_, rfl, hz, k _ _ (.sc fun _ => .str _)⟩
    · cases e
  · cases hx
    split at e
    · rename_i hz; cases e; exact .inr ⟨_, rfl, hz, k _ _ (.sc fun _ => .str _)⟩
    · cases e
  · cases e
theorem xfmt {W : WB} {e : Expr} {A : M Vw} {pos : Pos} (he : XE X W e A) : XE X W (.FormattedValue e (-1) none pos) (mUn fmtF A) := (pe_fmt he).weak fun _ _ _ q => rd_un (g := X.g) s_fmt q
/-- the parts one behind the other -/
def mJs : List (M Vw) → PySem.Str → M Vw
  | [], acc => fun e => .ok (.v (.str acc)) e
  | A :: r, acc => A.bind fun a => (lk a).bind fun s => match s with
    | .str y => if (acc ++ y).length ≤ sizeLine then mJs r (acc ++ y) else fun _ => .no
    | _ => fun _ => .no
inductive XJ (X : Cx) (W : WB) : List Expr → List (M Vw) → Prop where
  | nil : XJ X W [] []
  | cons {e : Expr} {A : M Vw} {es : List Expr} {As : List (M Vw)} (h : XE X W e A) (r : XJ X W es As) : XJ X W (e :: es) (A :: As)
theorem XJ.pj {W : WB} : ∀ {es : List Expr} {As : List (M Vw)}, XJ X W es As → PJ X es (As.map fun A => tE X.g W A)
  | _, _, .nil => .nil
  | _, _, .cons h r => .cons h r.pj
theorem rd_js {g : Gk} {W : WB} {σ : St} {Q : VK} : ∀ {As : List (M Vw)} {acc : PySem.Str} {H : Hp}, tE g W (mJs As acc) σ H Q → tJs (As.map fun A => tE g W A) acc σ H fun out H1 => Q (.str out) H1
  | [], acc, H, ⟨Z, env, rE, h⟩ => h _ H Z rE.post Kp.refl (.str acc)
  | A :: As, acc, H, ⟨Z, env, rE, h⟩ => by
    refine ⟨Z, env, rE, (Out.ct.bind h).mono fun x H1 ⟨Z1, env1, a, p1, k1, l1, c1⟩ => ?_⟩
    cases ea : look a env1 with
    | none => rw [lk_none ea] at c1; exact c1.elim
    | some s =>
      rw [lk_some ea] at c1
      have q := l1.look p1.rep ea
      cases s with
      | str y =>
        cases q
        simp only at c1
        split at c1
        · rename_i hz
          exact ⟨y, rfl, hz, rd_js ⟨Z1, env1, p1.rep, c1⟩⟩
        · exact c1.elim
      | _ => exact c1.elim
theorem xjoined {W : WB} {v1 v2 : Expr} {rest : List Expr} {As : List (M Vw)} {pos : Pos} (h : XJ X W (v1 :: v2 :: rest) As) : XE X W (.JoinedStr (v1 :: v2 :: rest) pos) (mJs As Str.empty) := (pe_joined h.pj).weak fun _ _ _ q => rd_js (g := X.g) q
theorem xjoined1 {W : WB} {e : Expr} {A : M Vw} {pos : Pos} (he : XE X W e A) : XE X W (.JoinedStr [e] pos) A := pe_joined1 he
end
end Ev
end P_Ev14

noncomputable section P_Ev15
set_option Elab.async false
set_option linter.all false
set_option maxRecDepth 100000
/-! Ev15: sorted ints, reversed slices, pairs walked. -/
namespace Ev
open PySem L2 PySem.Spec
open PyProof.Rows hiding St
set_option autoImplicit false
section
variable {X : Cx} {K : KB}
/-! ### sorted -/
def intsOf : List T → Option (List Int)
  | [] => some []
  | .int i :: r => (intsOf r).map fun l => i :: l
  | _ :: _ => none
def sortI (ns : List Int) : List Int := ns.mergeSort fun a b => decide (a ≤ b)
theorem sortI_perm (ns : List Int) : (sortI ns).Perm ns := List.mergeSort_perm _ _
theorem sortI_le (ns : List Int) : (sortI ns).Pairwise (· ≤ ·) := by
  have h := List.pairwise_mergeSort (le := fun a b : Int => decide (a ≤ b)) (fun a b c h1 h2 => by simp at *; omega) (fun a b => by simp; omega) ns
  exact h.imp fun z => by simpa using z
theorem sortI_eq {ns ns' : List Int} (h : ns'.Perm ns) (s : ns'.Pairwise (· ≤ ·)) : ns' = sortI ns :=
  List.Perm.eq_of_pairwise (le := (· ≤ ·)) (fun a b _ _ h1 h2 => by omega) s (sortI_le ns) (h.trans (sortI_perm ns).symm)
def sortedF : List T → Option Vw
  | [.list ts] => (intsOf ts).map fun ns => .fr (.lst ((sortI ns).map .int))
  | [.ro ts] => (intsOf ts).map fun ns => .fr (.lst ((sortI ns).map .int))
  | _ => none
theorem ints_rp {k : PySem.W.Frag} {G : Hp} : ∀ {vs : List V} {ts : List T} {ns : List Int}, RpL k G vs ts → intsOf ts = some ns → vs = ns.map V.int
  | _, _, _, .nil, e => by cases e; rfl
  | _, _, _, .cons (d := d) (ds := ds) h r, e => by
    cases h with
    | int x =>
      simp only [intsOf] at e
      cases q : intsOf ds with
      | none => rw [q] at e; cases e
      | some l =>
        rw [q] at e; cases e
        rw [ints_rp r q]; rfl
    | _ => cases e
theorem rpL_int {k : PySem.W.Frag} {G : Hp} : ∀ ns : List Int, RpL k G (ns.map V.int) (ns.map T.int)
  | [] => .nil
  | n :: r => .cons (.int n) (rpL_int r)
theorem s_sorted : CaS K (rSortedI K.K) sortedF := by
  intro G H xs ts w Q sm hx e k
  unfold sortedF at e
  split at e
  · obtain ⟨x, rfl, h⟩ := hx.one
    rename_i us
    cases q : intsOf us with
    | none => rw [q] at e; cases e
    | some ns =>
      rw [q] at e; cases e
      cases h with
      | lst a r =>
        rw [ints_rp r q] at a
        exact ⟨_, ns, rfl, SqL.of a, fun ns' p h1 h2 h3 => by rw [sortI_eq h1 h2]; exact k _ _ (New.lst h3 (rpL_int _))⟩
  · obtain ⟨x, rfl, h⟩ := hx.one
    rename_i us
    cases q : intsOf us with
    | none => rw [q] at e; cases e
    | some ns =>
      rw [q] at e; cases e
      cases h with
      | ro a r =>
        rw [ints_rp r q] at a
        exact ⟨_, ns, rfl, a, fun ns' p h1 h2 h3 => by rw [sortI_eq h1 h2]; exact k _ _ (New.lst h3 (rpL_int _))⟩
  · cases e
/-! ### enumerate -/
def enumTs : Nat → List T → List T
  | _, [] => []
  | i, t :: ts => .tuple [.int (i : Int), t] :: enumTs (i + 1) ts
theorem enum_get : ∀ (ts : List T) (j i : Nat), (enumTs j ts)[i]? = (ts[i]?).map fun t => T.tuple [.int ((j + i : Nat) : Int), t]
  | [], _, _ => by simp [enumTs]
  | t :: ts, j, 0 => by simp [enumTs]
  | t :: ts, j, i + 1 => by
    have h := enum_get ts (j + 1) i
    simp only [enumTs, List.getElem?_cons_succ, h]
    rw [show j + 1 + i = j + (i + 1) by omega]
theorem enum_len : ∀ (ts : List T) (j : Nat), (enumTs j ts).length = ts.length
  | [], _ => rfl
  | t :: ts, j => by simp [enumTs, enum_len ts]
theorem src_enum {a : Addr} {ts : List T} : Src K (Ite K a) (enumTs 0 ts) fun G _ => ∃ vs, SqL K G a vs ∧ RpL K G vs ts where
  mono := fun ⟨vs, h1, h2⟩ e _ => ⟨vs, e.seq h1, h2.mono e⟩
  go := fun {G H i} sm ⟨vs, h1, h2⟩ hi => by
    rw [enum_len] at hi
    have hl : i < vs.length := by rw [h2.length]; exact hi
    exact ⟨vs, vs[i], sm.seq h1, List.getElem?_eq_getElem hl⟩
  yld := fun {G H i x H'} sm ⟨vs, h1, h2⟩ hy hi => by
    obtain ⟨p, y, rfl, hn, rfl, hx⟩ := hy
    obtain ⟨t, e1, e2⟩ := h2.getV (hx vs (sm.seq h1))
    refine ⟨.tuple [.int (i : Nat), t], by rw [enum_get, e1, Nat.zero_add]; rfl, New.tup hn (.cons (.int _) (.cons e2 .nil))⟩
  stop := fun sm ⟨vs, h1, h2⟩ hi => ⟨vs, sm.seq h1, by rw [h2.length]; rw [enum_len] at hi; exact hi⟩
def sEnum (A : M (List Vw)) : M (List T) := A.bind fun rs => (toTs rs).bind fun ts e => match ts with
  | [.list us] => .ok (enumTs 0 us) e
  | [.ro us] => .ok (enumTs 0 us) e
  | _ => .no
theorem xienum {W : WB} {a : Expr} {A : M (List Vw)} {p pos tpos : Pos} {elts : List Expr} {kk : Nat} (hg : Gl X "enumerate") (hm : X.mg "enumerate" = none) (ha : XA X W [a] A) (hs : starEach [a] X.env = [(false, eval a X.env)] := by rfl) :
    XI X W (.Tuple elts kk tpos) (.Call (.Name "enumerate" p) [a] [] pos) (sEnum A) :=
  (pi_enum hg hm ha hs).weak fun σ H R ⟨Z, env, rE, h⟩ => ⟨Z, env, rE, (Out.bind0 rE h).mono fun xs H1 ⟨Z1, env1, rs, p1, k1, l1, c1⟩ => by
    obtain ⟨ts, env2, r2, p2, k2, q2, c2⟩ := Out.ct.plain rE p1 k1 l1 c1
    split at c2
    · cases q2 with
      | cons a1 r1 =>
        cases r1
        cases a1 with
        | lst a b => exact ⟨_, _, rfl, .of (hid_le _ _ a), c2 _ H1 Z r2.post Kp.refl ⟨_, src_enum, _, .of a, b⟩⟩
    · cases q2 with
      | cons a1 r1 =>
        cases r1
        cases a1 with
        | ro a b => exact ⟨_, _, rfl, (hid_le (Z := Z) (env := env2) (σ := σ) (H := H1)).seq a, c2 _ H1 Z r2.post Kp.refl ⟨_, src_enum, _, a, b⟩⟩
    · exact c2.elim⟩
/-! ### zip -/
def zipTs : List T → List T → List T
  | s :: ss, t :: ts => .tuple [s, t] :: zipTs ss ts
  | _, _ => []
theorem zip_get : ∀ (ss ts : List T) (i : Nat) (s t : T), ss[i]? = some s → ts[i]? = some t → (zipTs ss ts)[i]? = some (.tuple [s, t])
  | [], _, _, _, _, h, _ => by simp at h
  | _ :: _, [], _, _, _, _, h => by simp at h
  | x :: ss, y :: ts, 0, s, t, h, g => by simp at h g; subst h; subst g; rfl
  | x :: ss, y :: ts, i + 1, s, t, h, g => by
    simp only [zipTs, List.getElem?_cons_succ] at *
    exact zip_get ss ts i s t h g
theorem zip_len : ∀ ss ts : List T, (zipTs ss ts).length = min ss.length ts.length
  | [], _ => by simp [zipTs]
  | _ :: _, [] => by simp [zipTs]
  | x :: ss, y :: ts => by simp only [zipTs, List.length_cons, zip_len ss ts]; omega
theorem src_zip {a b : Addr} {ss ts : List T} : Src K (Itz K a b) (zipTs ss ts) fun G _ => ∃ us vs, SqL K G a us ∧ RpL K G us ss ∧ SqL K G b vs ∧ RpL K G vs ts where
  mono := fun ⟨us, vs, h1, h2, h3, h4⟩ e _ => ⟨us, vs, e.seq h1, h2.mono e, e.seq h3, h4.mono e⟩
  go := fun {G H i} sm ⟨us, vs, h1, h2, h3, h4⟩ hi => by
    rw [zip_len] at hi
    have hl : i < us.length := by rw [h2.length]; omega
    have hr : i < vs.length := by rw [h4.length]; omega
    exact ⟨us, vs, us[i], vs[i], sm.seq h1, sm.seq h3, List.getElem?_eq_getElem hl, List.getElem?_eq_getElem hr⟩
  yld := fun {G H i x H'} sm ⟨us, vs, h1, h2, h3, h4⟩ hy hi => by
    obtain ⟨p, y, z, rfl, hn, rfl, hx, hx'⟩ := hy
    obtain ⟨s, e1, e2⟩ := h2.getV (hx us (sm.seq h1))
    obtain ⟨t, e3, e4⟩ := h4.getV (hx' vs (sm.seq h3))
    exact ⟨_, zip_get _ _ _ _ _ e1 e3, New.tup hn (.cons e2 (.cons e4 .nil))⟩
  stop := fun sm ⟨us, vs, h1, h2, h3, h4⟩ hi => ⟨us, vs, sm.seq h1, sm.seq h3, by rw [h2.length, h4.length]; rw [zip_len] at hi; omega⟩
theorem src_zipT {a b : Addr} {ss ts : List T} : Src K (RZ.ItzT K a b) (zipTs ss ts) fun G _ => ∃ us vs, SqT K G a us ∧ RpL K G us ss ∧ SqT K G b vs ∧ RpL K G vs ts where
  mono := fun ⟨us, vs, h1, h2, h3, h4⟩ e _ => ⟨us, vs, sqT_mono e h1, h2.mono e, sqT_mono e h3, h4.mono e⟩
  go := fun {G H i} sm ⟨us, vs, h1, h2, h3, h4⟩ hi => by
    rw [zip_len] at hi
    have hl : i < us.length := by rw [h2.length]; omega
    have hr : i < vs.length := by rw [h4.length]; omega
    exact ⟨us, vs, us[i], vs[i], sqT_mono sm h1, sqT_mono sm h3, List.getElem?_eq_getElem hl, List.getElem?_eq_getElem hr⟩
  yld := fun {G H i x H'} sm ⟨us, vs, h1, h2, h3, h4⟩ hy hi => by
    obtain ⟨p, y, z, rfl, hn, rfl, hx, hx'⟩ := hy
    obtain ⟨s, e1, e2⟩ := h2.getV (hx us (sqT_mono sm h1))
    obtain ⟨t, e3, e4⟩ := h4.getV (hx' vs (sqT_mono sm h3))
    exact ⟨_, zip_get _ _ _ _ _ e1 e3, New.tup hn (.cons e2 (.cons e4 .nil))⟩
  stop := fun sm ⟨us, vs, h1, h2, h3, h4⟩ hi => ⟨us, vs, sqT_mono sm h1, sqT_mono sm h3, by rw [h2.length, h4.length]; rw [zip_len] at hi; omega⟩
def lstT : T → Option (List T)
  | .list ts => some ts
  | .ro ts => some ts
  | _ => none
/-- zip of two lists, of two tuples -/
def zipAll : List T → Option (List T)
  | [.tuple ss, .tuple ts] => some (zipTs ss ts)
  | [s, t] => (lstT s).bind fun ss => (lstT t).map fun ts => zipTs ss ts
  | _ => none
def sZip (A : M (List Vw)) : M (List T) := A.bind fun rs => (toTs rs).bind fun ts => opt (zipAll ts)
theorem lst_rp {k : PySem.W.Frag} {G : Hp} {x : V} {t : T} {ts : List T} (h : Rp k G x t) (e : lstT t = some ts) : ∃ p vs, x = .ref p ∧ SqL k G p vs ∧ RpL k G vs ts := by
  cases h with
  | lst a r => cases e; exact ⟨_, _, rfl, .of a, r⟩
  | ro a r => cases e; exact ⟨_, _, rfl, a, r⟩
  | _ => cases e
theorem xizip {W : WB} {a b : Expr} {A : M (List Vw)} {p pos tpos : Pos} {elts : List Expr} {kk : Nat} (hg : Gl X "zip") (hm : X.mg "zip" = none) (ha : XA X W [a, b] A) (hs : starEach [a, b] X.env = (false, eval a X.env) :: starEach [b] X.env := by rfl) (hpl : (backTo pos (starEach [b] X.env)).any (·.1) = false := by rfl) :
    XI X W (.Tuple elts kk tpos) (.Call (.Name "zip" p) [a, b] [] pos) (sZip A) :=
  (RZ.pi_zipA hg hm ha hs hpl).weak fun σ H R ⟨Z, env, rE, h⟩ => ⟨Z, env, rE, (Out.bind0 rE h).mono fun xs H1 ⟨Z1, env1, rs, p1, k1, l1, c1⟩ => by
    obtain ⟨ts, env2, r2, p2, k2, q2, c2⟩ := Out.ct.plain rE p1 k1 l1 c1
    unfold opt at c2
    cases q : zipAll ts with
    | none => rw [q] at c2; exact c2.elim
    | some zs =>
      rw [q] at c2
      unfold zipAll at q
      split at q
      · cases q
        cases q2 with
        | cons a1 r1 =>
          cases r1 with
          | cons a2 r2' =>
            cases r2'
            cases a1 with
            | tup s1 s2 =>
              cases a2 with
              | tup s3 s4 => exact ⟨_, _, _, _, rfl, .inr ⟨sqT_mono hid_le s1, sqT_mono hid_le s3, c2 _ H1 Z r2.post Kp.refl ⟨_, src_zipT, _, _, s1, s2, s3, s4⟩⟩⟩
      · rename_i s t _
        cases q3 : lstT s with
        | none => rw [q3] at q; cases q
        | some ss =>
          rw [q3] at q
          cases q4 : lstT t with
          | none => rw [q4] at q; cases q
          | some ts' =>
            rw [q4] at q
            cases q
            cases q2 with
            | cons a1 r1 =>
              cases r1 with
              | cons a2 r2' =>
                cases r2'
                obtain ⟨p1', vs1, rfl, s1, s2⟩ := lst_rp a1 q3
                obtain ⟨p2', vs2, rfl, s3, s4⟩ := lst_rp a2 q4
                exact ⟨_, _, _, _, rfl, .inl ⟨(hid_le (Z := Z) (env := env2) (σ := σ) (H := H1)).seq s1, (hid_le (Z := Z) (env := env2) (σ := σ) (H := H1)).seq s3, c2 _ H1 Z r2.post Kp.refl ⟨_, src_zip, _, _, s1, s2, s3, s4⟩⟩⟩
      · cases q⟩
/-! ### tuple targets of comprehensions -/
theorem gms_nil : ∀ (xs : List V) (σ : St) (H : Hp) (Q Q' : St → Hp → Prop), (∀ σ H, Q σ H → Q' σ H) → gNil xs σ H Q → gNil xs σ H Q' := fun xs σ H Q Q' h q => ⟨q.1, h _ _ q.2⟩
theorem gms_cons {t : TG} {u : TGs} (h1 : ∀ x σ H Q Q', (∀ σ H, Q σ H → Q' σ H) → t x σ H Q → t x σ H Q') (h2 : ∀ xs σ H Q Q', (∀ σ H, Q σ H → Q' σ H) → u xs σ H Q → u xs σ H Q') :
    ∀ (xs : List V) (σ : St) (H : Hp) (Q Q' : St → Hp → Prop), (∀ σ H, Q σ H → Q' σ H) → gCons t u xs σ H Q → gCons t u xs σ H Q' := fun xs σ H Q Q' h ⟨v, r, e, q⟩ => ⟨v, r, e, h1 _ _ _ _ _ (fun σ1 H1 z => h2 _ _ _ _ _ h z) q⟩
theorem gm_tup {k : PySem.W.Frag} {n : Nat} {u : TGs} (h2 : ∀ xs σ H Q Q', (∀ σ H, Q σ H → Q' σ H) → u xs σ H Q → u xs σ H Q') :
    ∀ (x : V) (σ : St) (H : Hp) (Q Q' : St → Hp → Prop), (∀ σ H, Q σ H → Q' σ H) → gTup k n u x σ H Q → gTup k n u x σ H Q' := fun x σ H Q Q' h ⟨a, xs, e, s, l, q⟩ => ⟨a, xs, e, s, l, h2 _ _ _ _ _ h q⟩
/-- a pair of names, in one piece -/
theorem gpair (X : Cx) {i j k : Nat} {x y : PySem.Str} {p1 p2 pos : Pos} (hc : X.calm = true) (hN : X.N.Nodup) (hi : X.N[i]? = some x) (hj : X.N[j]? = some y) (hx : Loc X.env.scope x) (hy : Loc X.env.scope y)
    (fx : X.fn x = true ∨ X.env.scope.names.lookup x = some .local) (fy : X.fn y = true ∨ X.env.scope.names.lookup y = some .local)
    (hn : (assignEach [.Name x p1, .Name y p2] X.env).length = 2) (hst : (assignEach [.Name x p1, .Name y p2] X.env).findIdx? (·.1) = none) :
    XG X (.Tuple [.Name x p1, .Name y p2] k pos) (bTup 2 (bCons (bName i) (bCons (bName j) bNil))) (gTup X.K 2 (gCons (gName i) (gCons (gName j) gNil))) :=
  gtup (X := X) hc (gcons (X := X) (gname (X := X) hN hi hx fx) (gcons (X := X) (gname (X := X) hN hj hy fy) gnil)) hn hst
end
end Ev
end P_Ev15

noncomputable section P_Ev16
set_option Elab.async false
set_option linter.all false
set_option maxRecDepth 100000
/-! Ev16: dicts walked by items (locked), more of dicts, two clauses. -/
namespace Ev
open PySem L2 PySem.Spec
open PyProof.Rows hiding St
set_option autoImplicit false

/-! ### locking -/
/-- one heap is the other but for a lock at a -/
structure Lk (a : Addr) (ws : List (Key × V)) (H H' : Hp) : Prop where
  ne : ∀ p, p ≠ a → H' p = H p
  o1 : Rd H a (.dK ws)
  o2 : Rd H' a (.dK ws)
section
variable {K : KB} {a : Addr} {ws : List (Key × V)} {H H' : Hp}
theorem rd_inj {p : Addr} {u w : HO} (h : Rd H p u) (g : Rd H p w) (hu : ∀ o v, u ≠ .frz o v) (hw : ∀ o v, w ≠ .frz o v) : u = w := by
  rcases h with h | ⟨o, h⟩ <;> rcases g with g | ⟨o', g⟩ <;> rw [h] at g
  · exact Option.some.inj g
  · exact (hu _ _ (Option.some.inj g)).elim
  · exact (hw _ _ (Option.some.inj g).symm).elim
  · have := Option.some.inj g
    injection this
theorem Lk.rd (l : Lk a ws H H') {p : Addr} {u : HO} (h : Rd H p u) (hu : ∀ o v, u ≠ .frz o v) : Rd H' p u := by
  by_cases e : p = a
  · subst e
    rw [rd_inj h l.o1 hu (fun _ _ z => nomatch z)]
    exact l.o2
  · unfold Rd at *
    rw [l.ne p e]
    exact h
theorem Lk.seqL (l : Lk a ws H H') {p : Addr} {xs : List V} (h : SqL K.K H p xs) : SqL K.K H' p xs := h.imp (fun h => l.rd h (fun _ _ z => nomatch z)) id
theorem Lk.seqT (l : Lk a ws H H') {p : Addr} {xs : List V} (h : SqT K.K H p xs) : SqT K.K H' p xs := h.imp (fun h => l.rd h (fun _ _ z => nomatch z)) id
theorem Lk.lst (l : Lk a ws H H') {p : Addr} {u : HO} (h : H p = some u) (hu : ∀ o v, u ≠ .frz o v) (hd : ∀ kvs, u ≠ .dK kvs) : H' p = some u := by
  by_cases e : p = a
  · subst e
    exact (hd _ (rd_inj (.of h) l.o1 hu (fun _ _ z => nomatch z))).elim
  · rw [l.ne p e]; exact h
mutual
theorem Rp.lk (l : Lk a ws H H') : ∀ {v : V} {t : T}, Rp K.K H v t → Rp K.K H' v t
  | _, _, .non => .non
  | _, _, .bl b => .bl b
  | _, _, .int i => .int i
  | _, _, .str x => .str x
  | _, _, .lst h r => .lst (l.lst h (fun _ _ z => nomatch z) (fun _ z => nomatch z)) (RpL.lk l r)
  | _, _, .ro h r => .ro (l.seqL h) (RpL.lk l r)
  | _, _, .tup h r => .tup (l.seqT h) (RpL.lk l r)
  | _, _, .dct h r => .dct (l.rd h (fun _ _ z => nomatch z)) (RpKv.lk l r)
theorem RpL.lk (l : Lk a ws H H') : ∀ {vs : List V} {ts : List T}, RpL K.K H vs ts → RpL K.K H' vs ts
  | _, _, .nil => .nil
  | _, _, .cons h r => .cons (Rp.lk l h) (RpL.lk l r)
theorem RpKv.lk (l : Lk a ws H H') : ∀ {vs : List (Key × V)} {ts : List (T × T)}, RpKv K.K H vs ts → RpKv K.K H' vs ts
  | _, _, .nil => .nil
  | _, _, .cons h r => .cons (Rp.lk l h) (RpKv.lk l r)
end
theorem KvR.lk (l : Lk a ws H H') : ∀ {vs : List (Key × V)} {ts : List (Key × T)}, KvR K.K H vs ts → KvR K.K H' vs ts
  | _, _, .nil => .nil
  | _, _, .cons h r => .cons (h.lk l) (KvR.lk l r)
theorem RepOb.lk {G G' : Hp} (l : Lk a ws G G') {b : Addr} (hb : H' b = H b) : ∀ {o : Ob}, RepOb K G H b o → RepOb K G' H' b o
  | .lst ts, ⟨vs, h1, h2⟩ => ⟨vs, by rw [hb]; exact h1, h2.lk l⟩
  | .dct kvs, ⟨vs, h1, h2⟩ => ⟨vs, by rw [hb]; exact h1, h2.lk l⟩
  | .tg j o, ⟨h1, h2⟩ => ⟨h1, RepOb.lk (o := o) l hb h2⟩
variable {Z Z' : SetA} {env env' : Sls} {σ σ' : St}
theorem Lk.hid (l : Lk a ws H H') (v : Rd (hid Z env σ H) a (.dK ws)) : Lk a ws (hid Z env σ H) (Ev.hid Z env σ H') := by
  have nv : ¬ (Z a ∨ SO env σ a) := fun z => by
    have e : Ev.hid Z env σ H a = none := if_pos z
    unfold Rd at v
    rw [e] at v
    rcases v with v | ⟨o, v⟩ <;> cases v
  refine ⟨fun p e => ?_, v, ?_⟩
  · unfold Ev.hid; rw [l.ne p e]
  · have := l.o2
    have e : Ev.hid Z env σ H' a = H' a := if_neg nv
    unfold Rd at *
    rw [e]
    exact this
theorem rd_vis {u : HO} (v : Rd (hid Z env σ H) a u) : ¬ Z a ∧ ¬ SO env σ a := by
  have nv : ¬ (Z a ∨ SO env σ a) := fun z => by
    have e : Ev.hid Z env σ H a = none := if_pos z
    unfold Rd at v
    rw [e] at v
    rcases v with v | ⟨o, v⟩ <;> cases v
  exact ⟨fun z => nv (.inl z), fun z => nv (.inr z)⟩
theorem Rd.dom {u : HO} (v : Rd H a u) : ∃ o, H a = some o := by
  rcases v with v | ⟨o, v⟩ <;> exact ⟨_, v⟩
theorem RepEnv.lk (rE : RepEnv K Z env σ H) (l : Lk a ws H H') (v : Rd (hid Z env σ H) a (.dK ws)) : RepEnv K Z env σ H' := by
  have lh := l.hid v
  obtain ⟨nz, ns⟩ := rd_vis v
  refine ⟨rE.len, fun i t e => ?_, fun i o e => ?_, rE.inj, fun p hz => ?_⟩
  · obtain ⟨x, h1, h2⟩ := rE.v i t e; exact ⟨x, h1, h2.lk lh⟩
  · obtain ⟨b, h1, h2, h3⟩ := rE.own i o e
    exact ⟨b, h1, h2, h3.lk lh (l.ne b fun z => ns (by subst z; exact ⟨i, o, e, h1⟩))⟩
  · rw [l.ne p fun z => nz (by rw [← z]; exact hz)]; exact rE.zd p hz
/-- a run over the locked heap, seen from the heap as it was, the lock taken off -/
theorem Post.unlk {H1 : Hp} {od : Obj} (hd : H a = some (.dK ws)) (v : Rd (Ev.hid Z env σ H) a (.dK ws)) (p : Post K Z env σ (upd H a (.frz od (.dK ws))) Z' env' σ' H1) :
    H1 a = some (.frz od (.dK ws)) ∧ Lk a ws H1 (upd H1 a (.dK ws)) ∧ Rd (Ev.hid Z' env' σ' H1) a (.dK ws) ∧ Post K Z env σ H Z' env' σ' (upd H1 a (.dK ws)) := by
  obtain ⟨nz, ns⟩ := rd_vis v
  have h1 : H1 a = some (.frz od (.dK ws)) := p.fr a _ upd_same ns
  have l1 : Lk a ws H1 (upd H1 a (.dK ws)) := ⟨fun q e => upd_ne e, .inr ⟨_, h1⟩, .of upd_same⟩
  have v1 : Rd (Ev.hid Z' env' σ' H1) a (.dK ws) := .inr ⟨od, p.same _ _ (hid_some.mpr ⟨nz, ns, upd_same⟩)⟩
  refine ⟨h1, l1, v1, p.rep.lk l1 v1, fun q o e n => ?_, fun q o e => ?_, fun q e => ?_, p.zs, fun q e => ?_⟩
  · by_cases z : q = a
    · subst z; rw [upd_same, ← e, hd]
    · rw [upd_ne z]; exact p.fr q o (by rw [upd_ne z]; exact e) n
  · by_cases z : q = a
    · subst z; exact ⟨_, upd_same⟩
    · rw [upd_ne z]; exact p.dom q o (by rw [upd_ne z]; exact e)
  · refine (p.so q e).imp id fun w => ?_
    by_cases z : q = a
    · subst z; rw [upd_same] at w; cases w
    · rw [upd_ne z] at w; exact w
  · refine (p.zn q e).imp id fun w => ?_
    by_cases z : q = a
    · subst z; rw [upd_same] at w; cases w
    · rw [upd_ne z] at w; exact w
end
/-! ### for k, v in d.items() -/
def itemTs (ds : List (T × T)) : List T := ds.map fun p => .tuple [p.1, p.2]
theorem rp_key {K : KB} {G : Hp} (k : Key) : Rp K G (kV k) (keyT k) := by cases k <;> constructor
theorem RpKv.getV {K : KB} {H : Hp} : ∀ {vs : List (Key × V)} {ts : List (T × T)} {i : Nat} {k : Key} {v : V}, RpKv K H vs ts → vs[i]? = some (k, v) → ∃ t, ts[i]? = some (keyT k, t) ∧ Rp K H v t
  | _, _, _, _, _, .nil, e => by simp at e
  | _, _, 0, _, _, .cons h _, e => by simp at e; obtain ⟨rfl, rfl⟩ := e; exact ⟨_, rfl, h⟩
  | _, _, i + 1, k, v, .cons _ r, e => by
    obtain ⟨t, h1, h2⟩ := RpKv.getV (i := i) (k := k) (v := v) r (by simpa using e)
    exact ⟨t, by simpa using h1, h2⟩
theorem src_items {K : KB} {a : Addr} {o : Obj} {ws : List (Key × V)} {ds : List (T × T)} : Src K (Iti a o ws) (itemTs ds) fun G _ => G a = some (.frz o (.dK ws)) ∧ RpKv K G ws ds where
  mono := fun ⟨h1, h2⟩ e _ => ⟨e _ _ h1, h2.mono e⟩
  go := fun {G H i} sm ⟨h1, h2⟩ hi => ⟨sm _ _ h1, by unfold itemTs at hi; rw [List.length_map] at hi; rw [h2.length]; exact hi⟩
  yld := fun {G H i x H'} sm ⟨h1, h2⟩ hy hi => by
    obtain ⟨p, k, v, e, rfl, hn, rfl⟩ := hy
    obtain ⟨t, e1, e2⟩ := h2.getV e
    exact ⟨_, by unfold itemTs; rw [List.getElem?_map, e1]; rfl, New.tup hn (.cons (rp_key k) (.cons e2 .nil))⟩
  stop := fun sm ⟨h1, h2⟩ hi => ⟨sm _ _ h1, by unfold itemTs at hi; rw [List.length_map] at hi; rw [h2.length]; exact hi⟩
/-- for tg in d.items(), d a slot with a dict that is read; nothing may be raised -/
def mForI (i : Nat) (b : T → M Unit) (B : MS) : MS := fun e => match e[i]? with
  | some (.v (.dict kvs)) => forL b (nox B) (itemTs kvs) e
  | some (.own (.dct kvs)) => forL b (nox B) (itemTs (kvs.map fun p => (keyT p.1, p.2))) (e.set i (.v (.dict (kvs.map fun p => (keyT p.1, p.2)))))
  | _ => .no
theorem _root_.L2.PS.or {X : Cx} {st : Stmt} {t t' : TS} (h : PS X st t) (h' : PS X st t') : PS X st (fun D σ H => t D σ H ∨ t' D σ H) := ⟨fun pins s σ H D I q => q.elim (h.run pins s σ H D I) (h'.run pins s σ H D I)⟩
theorem nox_ner {α : Type} {m : M α} {e e' : Sls} {y : Exc} : nox m e ≠ .er y e' := by
  unfold nox
  split
  · intro h; cases h
  · intro h; cases h
theorem forL_ner {b : T → M Unit} {B : MS} (hb : ∀ t e y e', b t e ≠ .er y e') : ∀ {ts : List T} {e e' : Sls} {y : Exc}, forL b (nox B) ts e ≠ .er y e'
  | [], _, _, _, h => by cases h
  | t :: ts, e, e', y, h => by
    unfold forL M.bind R.bind at h
    cases q : b t e with
    | no => rw [q] at h; cases h
    | er z w => exact hb _ _ _ _ q
    | ok u e1 =>
      rw [q] at h
      simp only [M.bind, R.bind] at h
      cases q2 : nox B e1 with
      | no => rw [q2] at h; cases h
      | er z w => exact nox_ner q2
      | ok f e2 =>
        rw [q2] at h
        simp only at h
        cases f with
        | nx => exact forL_ner hb h
        | ct => exact forL_ner hb h
        | bk => cases h
        | rt r => cases h
theorem xnox {X : Cx} {W : WB} {body : List Stmt} {B : MS} (h : XSs X (WF W) body B) : XSs X (WF W) body (nox B) := h.weak fun D σ H ⟨Z, env, rE, q⟩ => ⟨Z, env, rE, by
  unfold nox at q
  split at q
  · rename_i a e qe; rw [qe]; exact q
  · exact q.elim⟩
theorem OutS.lk {g : Gk} {W : WB} {D : Ends} {σ : St} {Z : SetA} {env : Sls} {H : Hp} {a : Addr} {ws : List (Key × V)} {od : Obj} {r : R Fl} (hd : H a = some (.dK ws)) (v : Rd (hid Z env σ H) a (.dK ws)) (hr : ∀ y e, r ≠ .er y e) (h : OutS g W D σ Z env H r) :
    OutS g (WF W) ⟨fun σ' H' => H' a = some (.frz od (.dK ws)) ∧ D.nx σ' (upd H' a (.dK ws)), fun v H' => H' a = some (.frz od (.dK ws)) ∧ D.rt v (upd H' a (.dK ws)), fun σ' H' => H' a = some (.frz od (.dK ws)) ∧ D.bk σ' (upd H' a (.dK ws)), fun σ' H' => H' a = some (.frz od (.dK ws)) ∧ D.ct σ' (upd H' a (.dK ws))⟩ σ Z env (upd H a (.frz od (.dK ws))) r := by
  have nn : ∀ {p : Addr}, upd H a (.frz od (.dK ws)) p = none → H p = none := fun {p} w => by
    by_cases z : p = a
    · subst z; rw [upd_same] at w; cases w
    · rw [upd_ne z] at w; exact w
  cases r with
  | no => exact h
  | er y e => exact (hr y e rfl).elim
  | ok f e =>
    cases f with
    | nx => exact fun σ' H' Z' p => let ⟨q1, _, _, q⟩ := Post.unlk hd v p; ⟨q1, h σ' _ Z' q⟩
    | bk => exact fun σ' H' Z' p => let ⟨q1, _, _, q⟩ := Post.unlk hd v p; ⟨q1, h σ' _ Z' q⟩
    | ct => exact fun σ' H' Z' p => let ⟨q1, _, _, q⟩ := Post.unlk hd v p; ⟨q1, h σ' _ Z' q⟩
    | rt r =>
      intro x σ' H' Z' p l
      obtain ⟨q1, q2, q3, q⟩ := Post.unlk hd v p
      refine ⟨q1, h x σ' _ Z' q ?_⟩
      cases r with
      | v t => exact Rp.lk (q2.hid q3) l
      | sl i => exact l
      | fr o =>
        obtain ⟨b, e1, e2, e3, e4⟩ := l
        exact ⟨b, e1, nn e2, e3, e4.lk (q2.hid q3) (q2.ne b fun z => (rd_vis q3).1 (by rw [← z]; exact e3))⟩
theorem XG.ner {X : Cx} {tg : Expr} {b : T → M Unit} {t : TG} (h : XG X tg b t) : ∀ d e y e', b d e ≠ .er y e' := fun d e y e' q => h.er q
theorem xforit {X : Cx} {W : WB} {i : Nat} {x : PySem.Str} {px apos cpos tpos pos : Pos} {elts : List Expr} {kk : Nat} {body : List Stmt} {b : T → M Unit} {t : TG} {B : MS} (hp : PassesOwn (model X.prog X.w) X.A X.env X.xe) (hc : X.calm = true) (hN : X.N[i]? = some x) (hv : Vis X.env.scope x)
    (hg : XG X (.Tuple elts kk tpos) b t) (hb : XSs X (WF W) body B) (hd : (x == ("__debug__" : Str)) = false := by decide) (hcd : (x == ("__classdict__" : Str)) = false := by decide)
    (hbase : attributeBase (.Name x px) "items" X.env (eval (.Name x px) X.env) = eval (.Name x px) X.env := by rfl) (hline : (apos.endLine == cpos.line) = true := by rfl)
    (hs : ∀ y, foldedSetIterable (.Call (.Attribute (.Name x px) "items" apos) [] [] cpos) X.env y = pure y := by intro _; rfl) :
    XS X W (.For (.Tuple elts kk tpos) (.Call (.Attribute (.Name x px) "items" apos) [] [] cpos) body [] pos) (mForI i b B) := by
  have base : PS X _ (tFor (iItems (tVar i)) t (tS X.g (WF W) (nox B))) := ps_for (pos := pos) hp hc (pi_items (pe_var (pos := px) hN hv hd hcd) hbase hline) hg.pg (xnox hb) hs
  -- from a locked dict
  have main : ∀ {D : Ends} {σ : St} {H : Hp} {Z : SetA} {env : Sls} {a : Addr} {ws : List (Key × V)} {ds : List (T × T)} {od : Obj}, RepEnv (kb X.g (WF W)) Z env σ H → σ[i]? = some (some (.ref a)) → hid Z env σ H a = some (.frz od (.dK ws)) → RpKv X.K (hid Z env σ H) ws ds →
      OutS X.g (WF W) D σ Z env H (forL b (nox B) (itemTs ds) env) → tFor (iItems (tVar i)) t (tS X.g (WF W) (nox B)) D σ H := by
    intro D σ H Z env a ws ds od rE es ha hr ho
    exact ⟨_, es, a, od, ws, rfl, hid_le _ _ ha, for_core hg src_items rE.post ⟨ha, hr⟩ ho⟩
  refine ((ps_lock base).or base).weak fun D σ H ⟨Z, env0, rE, h⟩ => ?_
  have go : ∀ {env : Sls} {a : Addr} {ws : List (Key × V)} {ds : List (T × T)}, Post (kb X.g W) Z env0 σ H Z env σ H → σ[i]? = some (some (.ref a)) → Rd (hid Z env σ H) a (.dK ws) → RpKv X.K (hid Z env σ H) ws ds → OutS X.g W D σ Z env0 H (forL b (nox B) (itemTs ds) env) →
      tLock (tFor (iItems (tVar i)) t (tS X.g (WF W) (nox B))) D σ H ∨ tFor (iItems (tVar i)) t (tS X.g (WF W) (nox B)) D σ H := by
    intro env a ws ds p es v hr ho
    have ho' : OutS X.g W D σ Z env H (forL b (nox B) (itemTs ds) env) := by
      cases q : forL b (nox B) (itemTs ds) env with
      | no => rw [q] at ho; exact ho
      | er y e => exact (forL_ner hg.ner q).elim
      | ok f e =>
        rw [q] at ho
        cases f with
        | nx => exact fun σ' H' Z' p' => ho σ' H' Z' (p.trans p')
        | bk => exact fun σ' H' Z' p' => ho σ' H' Z' (p.trans p')
        | ct => exact fun σ' H' Z' p' => ho σ' H' Z' (p.trans p')
        | rt r => exact fun x σ' H' Z' p' l => ho x σ' H' Z' (p.trans p') l
    rcases v with v | ⟨od, v⟩
    · have hd := hid_le _ _ v
      have vis : Rd (hid Z env σ H) a (.dK ws) := .of v
      obtain ⟨nz, ns⟩ := rd_vis vis
      refine .inl ⟨a, _, hd, trivial, fun od => ?_⟩
      have l : Lk a ws H (upd H a (.frz od (.dK ws))) := ⟨fun q e => upd_ne e, .of hd, .inr ⟨_, upd_same⟩⟩
      refine main (p.rep.lk l vis) es (hid_some.mpr ⟨nz, ns, upd_same⟩) (RpKv.lk (K := kb X.g W) (l.hid vis) hr) ?_
      exact OutS.lk (W := W) hd vis (fun y e => forL_ner hg.ner) ho'
    · refine .inr (main (Z := Z) (env := env) (od := od) p.rep es v hr ?_)
      cases q : forL b (nox B) (itemTs ds) env with
      | no => rw [q] at ho'; exact ho'
      | er y e => exact (forL_ner hg.ner q).elim
      | ok f e => rw [q] at ho'; cases f <;> exact ho'
  unfold mForI at h
  cases e : env0[i]? with
  | none => rw [e] at h; exact h.elim
  | some s =>
    rw [e] at h
    cases s with
    | non => exact h.elim
    | own o =>
      cases o with
      | dct kvs =>
        obtain ⟨a, h1, h2, h3⟩ := rE.own i _ e
        have hq : toT (.sl i) env0 = .ok (.dict (kvs.map fun p => (keyT p.1, p.2))) (env0.set i (.v (.dict (kvs.map fun p => (keyT p.1, p.2))))) := by
          unfold toT
          simp only [e]
          rfl
        obtain ⟨p2, k2, s2⟩ := toT_ok (H0 := H) (r := .sl i) (x := .ref a) rE ⟨h1, .inl ⟨_, e⟩⟩ hq
        have r := s2 Z (fun _ h => h) rE.zd
        cases r with
        | dct r1 r2 => exact go p2.lessZ h1 r1 r2 h
      | _ => exact h.elim
    | v t =>
      cases t with
      | dict kvs =>
        obtain ⟨x, h1, h2⟩ := rE.v i _ e
        cases h2 with
        | dct r1 r2 => exact go rE.post h1 r1 r2 h
      | _ => exact h.elim
end Ev
end P_Ev16

noncomputable section P_Ev17
set_option Elab.async false
set_option linter.all false
set_option maxRecDepth 100000
/-! Ev17: dict comprehensions of two clauses, by the machine's rules. -/
namespace Ev
open PySem L2 PySem.Spec
open PyProof.Rows hiding St
set_option autoImplicit false

section
variable {prog : Program} {w : World} {A : Around} {R : Result → Shared → Prop} {s : Shared} {kx vx t0 i0 t1 i1 : Expr} {ifs0 ifs1 : List Expr} {scope : Scope} {pos : Pos} {it : Value} {D : Addr} {env : Env}
abbrev dc2E (kx vx t0 i0 t1 i1 : Expr) (ifs0 ifs1 : List Expr) (scope : Scope) (pos : Pos) : Expr := .DictComp kx vx [⟨t0, i0, ifs0, 0⟩, ⟨t1, i1, ifs1, 0⟩] scope pos
abbrev Never (M : Model) (A : Around) {α : Type} (t : Sem α) (Q : α → Shared → Prop) (s : Shared) : Prop := wpAny M A t Q (fun _ _ => False) s
theorem Never.up {M : Model} {A : Around} {α : Type} {t : Sem α} {Q : α → Shared → Prop} {E : Value → Shared → Prop} {s : Shared} (h : Never M A t Q s) : wpAny M A t Q E s := wpAny_mono h (fun _ _ q => q) fun _ _ z => z.elim
abbrev testsOf (ifs : List Expr) (env : Env) : Sem Bool := forIn ifs true fun c r => if r = true then do let ok ← isTrue c env (eval c env); pure (ForInStep.yield ok) else pure (ForInStep.yield r)
theorem turn_out : compTurn (dc2E kx vx t0 i0 t1 i1 ifs0 ifs1 scope pos) 0 it (.ref D) env = (do
      standAt i0.pos
      match ← pyNext it with
      | none => pure (.done .next)
      | some y =>
        letOwnedTupleGo t0 it y
        assign t0 env y
        let mut go := true
        for c in ifs0 do
          if go then go ← isTrue c env (eval c env)
        if go then
          let src ← eval i1 env
          standAt i1.pos
          let src ← foldedSetIterable i1 env src
          let _ ← runOwn (.compStart (dc2E kx vx t0 i0 t1 i1 ifs0 ifs1 scope pos) 1 (← holding [src] (pyIter src)) (.ref D) env) env
        again (.compLoop (dc2E kx vx t0 i0 t1 i1 ifs0 ifs1 scope pos) 0 it (.ref D) env)) := by rfl
theorem turn_in : compTurn (dc2E kx vx t0 i0 t1 i1 ifs0 ifs1 scope pos) 1 it (.ref D) env = (do
      standAt i1.pos
      match ← pyNext it with
      | none => pure (.done .next)
      | some y =>
        letOwnedTupleGo t1 it y
        assign t1 env y
        let mut go := true
        for c in ifs1 do
          if go then go ← isTrue c env (eval c env)
        if go then
          (do
            let key ← eval kx env
            let val ← holding [key] (eval vx env)
            standAt { kx.pos with endLine := vx.pos.endLine, endCol := vx.pos.endCol }
            holding [key, val] (dictSet D key val))
        again (.compLoop (dc2E kx vx t0 i0 t1 i1 ifs0 ifs1 scope pos) 1 it (.ref D) env)) := by rfl
/-- the first clause's loop; nothing is raised -/
theorem loop_out (hf : ∀ x, foldedSetIterable i1 env x = pure x) (I : Nat → Shared → Prop)
    (turn : ∀ n s, I n s → Never (model prog w) A (pyNext it) (fun r s1 => match r with
      | none => R (.ok .next) s1
      | some y => Never (model prog w) A (letOwnedTupleGo t0 it y) (fun _ s2 => Never (model prog w) A (assign t0 env y) (fun _ s3 => Never (model prog w) A (testsOf ifs0 env) (fun ok s4 =>
          if ok = true then Never (model prog w) A (eval i1 env) (fun x s5 => Never (model prog w) A (pyIter x) (fun j s6 =>
              codeAny (model prog w) A (.compStart (dc2E kx vx t0 i0 t1 i1 ifs0 ifs1 scope pos) 1 j (.ref D) env) (fun r s' => match r with
                | .ok _ => ∃ m, m < n ∧ I m s'
                | .error _ => False) s6) s5) s4
          else ∃ m, m < n ∧ I m s4) s3) s2) s1) s) (n : Nat) (h : I n s) :
    codeAny (model prog w) A (.compLoop (dc2E kx vx t0 i0 t1 i1 ifs0 ifs1 scope pos) 0 it (.ref D) env) R s := by
  refine codeAny_loop rfl I (fun n s hI => ?_) n h
  show wpAny _ A ((compTurn (dc2E kx vx t0 i0 t1 i1 ifs0 ifs1 scope pos) 0 it (.ref D) env).onRaise (fun x => do noteFrame x env; theTreesLotGoes x)) _ _ s
  refine wpAny_noted ?_
  rw [turn_out]
  refine wpAny_bind (wpAny_standAt (wpAny_bind (thn (turn n s hI).up fun r s1 h1 => ?_)))
  cases r with
  | none => exact wpAny_pure h1
  | some y =>
    refine wpAny_bind (thn (Never.up h1) fun _ s2 h2 => wpAny_bind (thn (Never.up h2) fun _ s3 h3 => wpAny_bind (thn (Never.up h3) fun ok s4 h4 => ?_)))
    cases ok with
    | false => exact wpAny_pure ⟨rfl, h4⟩
    | true =>
      refine wpAny_bind (thn (Never.up h4) fun x s5 h5 => wpAny_bind (wpAny_standAt (wpAny_bind (wpAny_of_eq (hf x) (wpAny_bind (wpAny_holding (thn (Never.up h5) fun j s6 h6 => ?_)))))))
      refine wpAny_bind (wpAny_runOwn ?_)
      rw [Around.mark_none]
      refine codeAny_mono h6 fun r s' hr => ?_
      cases r with
      | ok f => first | exact wpAny_pure ⟨rfl, hr⟩ | exact wpAny_bind (wpAny_pure (wpAny_pure ⟨rfl, hr⟩))
      | error z => exact hr.elim
/-- the second clause's -/
theorem loop_in (I : Nat → Shared → Prop)
    (turn : ∀ n s, I n s → Never (model prog w) A (pyNext it) (fun r s1 => match r with
      | none => R (.ok .next) s1
      | some y => Never (model prog w) A (letOwnedTupleGo t1 it y) (fun _ s2 => Never (model prog w) A (assign t1 env y) (fun _ s3 => Never (model prog w) A (testsOf ifs1 env) (fun ok s4 =>
          if ok = true then Never (model prog w) A (eval kx env) (fun key s5 => Never (model prog w) A (eval vx env) (fun val s6 => Never (model prog w) A (dictSet D key val) (fun _ s7 => ∃ m, m < n ∧ I m s7) s6) s5) s4
          else ∃ m, m < n ∧ I m s4) s3) s2) s1) s) (n : Nat) (h : I n s) :
    codeAny (model prog w) A (.compLoop (dc2E kx vx t0 i0 t1 i1 ifs0 ifs1 scope pos) 1 it (.ref D) env) R s := by
  refine codeAny_loop rfl I (fun n s hI => ?_) n h
  show wpAny _ A ((compTurn (dc2E kx vx t0 i0 t1 i1 ifs0 ifs1 scope pos) 1 it (.ref D) env).onRaise (fun x => do noteFrame x env; theTreesLotGoes x)) _ _ s
  refine wpAny_noted ?_
  rw [turn_in]
  refine wpAny_bind (wpAny_standAt (wpAny_bind (thn (turn n s hI).up fun r s1 h1 => ?_)))
  cases r with
  | none => exact wpAny_pure h1
  | some y =>
    refine wpAny_bind (thn (Never.up h1) fun _ s2 h2 => wpAny_bind (thn (Never.up h2) fun _ s3 h3 => wpAny_bind (thn (Never.up h3) fun ok s4 h4 => ?_)))
    cases ok with
    | false => exact wpAny_pure ⟨rfl, h4⟩
    | true =>
      exact wpAny_bind (wpAny_bind (thn (Never.up h4) fun key s5 h5 => wpAny_bind (wpAny_holding (thn (Never.up h5) fun val s6 h6 => wpAny_bind (wpAny_standAt (wpAny_holding (thn (Never.up h6) fun _ s7 h7 => wpAny_pure ⟨rfl, h7⟩)))))))
theorem start_in (h0 : codeAny (model prog w) A (.compLoop (dc2E kx vx t0 i0 t1 i1 ifs0 ifs1 scope pos) 1 it (.ref D) env) R s)
    (h : wpAny (model prog w) A (pyIter it) (fun j s' => codeAny (model prog w) A (.compLoop (dc2E kx vx t0 i0 t1 i1 ifs0 ifs1 scope pos) 1 j (.ref D) env) R s') (notedBy (model prog w) A env fun x s' => R (.error x) s') s) :
    codeAny (model prog w) A (.compStart (dc2E kx vx t0 i0 t1 i1 ifs0 ifs1 scope pos) 1 it (.ref D) env) R s := by
  refine codeAny_of_tree ?_
  show wpAny _ _ ((compStart (dc2E kx vx t0 i0 t1 i1 ifs0 ifs1 scope pos) 1 it (.ref D) env).onRaise (fun x => do noteFrame x env; standAt theWindowsPlace)) _ _ s
  refine wpAny_notedAt ?_
  unfold compStart
  show wpAny _ _ (ask >>= _) _ _ s
  refine wpAny_bind (wpAny_askSetting (wpAny_ite ?_))
  split
  · first
      | exact wpAny_bind (wpAny_pure (wpAny_pure (And.intro rfl h0)))
      | exact wpAny_pure (And.intro rfl h0)
  · first
      | exact wpAny_bind (wpAny_rule (wpAny_bind (wpAny_standAt (wpAny_bind (thn h fun j s' q => wpAny_pure (And.intro rfl q))))))
      | (refine wpAny_bind (wpAny_rule ?_); show wpAny _ _ (standAt i1.pos >>= _) _ _ s; exact wpAny_bind (wpAny_standAt (wpAny_bind (thn h fun j s' q => wpAny_pure (And.intro rfl q)))))
end
section
variable {X : Cx}
/-- {k: v for tg in iter if .. for tg1 in iter1 if ..}: ns the block's names, ns1 those of the second target -/
def tDc2 (wo : TI) (go : TG) (to : TT) (wi : TI) (gi : TG) (ti : TT) (tk tv : TE) (ns ns1 : List Nat) : TE := fun σ H Q => wo σ H fun J G => ∀ D, G D = none → ∃ W : Nat → Nat → Hp → Prop, (∃ m, W 0 m (upd G D (.dK []))) ∧ ∀ i m H, W i m H →
  (J.stop i H ∧ Q (.ref D) H) ∨ (J.go i H ∧ ∃ Nx : Hp → Prop, (∀ G, Nx G → ∃ m', m' < m ∧ W (i + 1) m' G) ∧ ∀ x G, J.yld i H x G → go x (wipe σ ns) G fun τ G2 => wipe τ ns = wipe σ ns ∧ to τ G2 fun b G3 =>
    if b = true then wi τ G3 fun J1 G4 => ∃ V : Nat → Nat → Hp → Prop, (∃ m, V 0 m G4) ∧ ∀ j k H, V j k H →
      (J1.stop j H ∧ Nx H) ∨ (J1.go j H ∧ ∃ Ny : Hp → Prop, (∀ G, Ny G → ∃ k', k' < k ∧ V (j + 1) k' G) ∧ ∀ x G, J1.yld j H x G → gi x (wipe τ ns1) G fun ρ G5 => wipe ρ ns1 = wipe τ ns1 ∧ ti ρ G5 fun b G6 =>
        if b = true then tk ρ G6 fun y G7 => tv ρ G7 fun z G8 => ∃ kvs k, y = kV k ∧ G8 D = some (.dK kvs) ∧ kvs.length < sizeLine ∧ Ny (upd G8 D (.dK (putK kvs k z))) else Ny G6)
    else Nx G3)
theorem dc2_core {pins : List (Addr × Obj)} {s : Shared} {σ : St} {H : Hp} {Q : VK} {use : Option (Value → Sem Unit)} {Qf : Value → Shared → Prop} {pos' : Pos} {kx vx tg iter tg1 iter1 : Expr} {ifs ifs1 : List Expr} {scope : Scope} {own : List (PySem.Str × Nat)} {ns1 : List Nat} {pos : Pos} {wo wi : TI} {go gi : TG} {to ti : TT} {tk tv : TE} (hc : X.calm = true) (hN : X.N.Nodup) (ho : PI X tg iter wo) (ok : BlkOk X.N X.env.scope scope own) (hv : ∀ i ∈ ns1, i ∈ own.map (·.2))
    (hg : ∀ (s : Shared) (H : Hp) (C : Addr) (cl : List (PySem.Str × Addr)) (fp : List Addr), PG (X.blk s H scope (compEnvC scope cl C X.env) fp) tg go) (ht : ∀ (s : Shared) (H : Hp) (C : Addr) (cl : List (PySem.Str × Addr)) (fp : List Addr), PTs (X.blk s H scope (compEnvC scope cl C X.env) fp) ifs to)
    (hi1 : ∀ (s : Shared) (H : Hp) (C : Addr) (cl : List (PySem.Str × Addr)) (fp : List Addr), PI (X.blk s H scope (compEnvC scope cl C X.env) fp) tg1 iter1 wi)
    (hg1 : ∀ (s : Shared) (H : Hp) (C : Addr) (cl : List (PySem.Str × Addr)) (fp : List Addr), PG (X.blk s H scope (compEnvC scope cl C X.env) fp) tg1 gi) (ht1 : ∀ (s : Shared) (H : Hp) (C : Addr) (cl : List (PySem.Str × Addr)) (fp : List Addr), PTs (X.blk s H scope (compEnvC scope cl C X.env) fp) ifs1 ti)
    (hk : ∀ (s : Shared) (H : Hp) (C : Addr) (cl : List (PySem.Str × Addr)) (fp : List Addr), PE (X.blk s H scope (compEnvC scope cl C X.env) fp) kx tk) (he : ∀ (s : Shared) (H : Hp) (C : Addr) (cl : List (PySem.Str × Addr)) (fp : List Addr), PE (X.blk s H scope (compEnvC scope cl C X.env) fp) vx tv)
    (hs : ∀ x, foldedSetIterable iter X.env x = pure x) (hs1 : ∀ env x, foldedSetIterable iter1 env x = pure x) (I : Inv X pins σ H s) (h : tDc2 wo go to wi gi ti tk tv (own.map (·.2)) ns1 σ H Q)
    (hRR : ∀ D C s' m G, Inv X pins σ G s' → Q (.ref D) G → s'.heap.Ns C m → FpOk X pins G C → compPost (model X.prog X.w) X.A X.xe use Qf (.ref D) C (.ok .next) s') :
    wpAny (model X.prog X.w) X.A (comprehension (dc2E kx vx tg iter tg1 iter1 ifs ifs1 scope pos) scope X.env pos' newDict false (eval iter X.env) use) Qf X.xe s := by
  have frees : ∀ y ∈ scope.names, y.2 = .free → ∃ c, X.env.cells.lookup y.1 = some c := fun y hy e => (ok.free y hy e).elim (fun k => I.ok.has _ (.inl k)) fun k => I.ok.has _ (.inr k)
  refine wpAny_comprehension_free (use := use) rfl hs (closure_ok frees) ok.kind (fun y hy e => by rw [ok.uniq y hy, e]) (thn (ho.run pins s σ H _ I h) fun xv s1 hx => thn hx fun itv s2 h2 => ?_)
  obtain ⟨it, fp, tn, J, G2, rfl, I2, U, st2, f2, q⟩ := h2
  refine wpAny_newObj_type (newEnv_comp ?_)
  generalize hD : s2.heap.objs.size = D
  have nD : G2 D = none := I2.hok.fresh (Nat.le_of_eq hD)
  obtain ⟨W, ⟨m0, w0⟩, turn⟩ := q D nD
  -- the new dict
  generalize es3 : ({ s2 with heap := s2.heap.push { cls := .type "dict", data := .dict #[] } } : Shared) = s3
  have h3 : s3.heap = s2.heap.push { cls := .type "dict", data := .dict #[] } := by rw [← es3]
  have I3 : Inv X pins σ (upd G2 D (.dK [])) s3 := by
    rw [← es3]
    refine I2.laid (t' := s2.toks) (fun b o e => Heap.get?_push_of_some _ e) (Nat.le_of_eq hD) ?_
    rw [← hD]
    exact dk_empty s2.heap I2.big
  have f3 : ∀ b ∈ fp, FpOk X pins (upd G2 D (.dK [])) b ∧ b < s3.heap.objs.size := fun b hb => by
    obtain ⟨o, e, _⟩ := U.obj _ _ st2 b hb
    have lt : b < s2.heap.objs.size := Heap.lt_size e
    exact ⟨⟨by rw [upd_ne (by rw [← hD]; exact Nat.ne_of_lt lt)]; exact (f2 b hb).1, (f2 b hb).2⟩, by rw [h3, Heap.size_push]; exact Nat.lt_succ_of_lt lt⟩
  have st3 : tn 0 s3.heap := U.keep _ _ _ st2 fun b _ o e => by rw [h3]; exact Heap.get?_push_of_some _ e
  have I4 := block_start I3 ok hN f3
  generalize eC : s3.heap.objs.size = C at *
  generalize ecl : cellsFrom (C + 1) scope.names (cloFrom X.env.cells scope.names []) = cl at *
  generalize eG3 : upd G2 D (.dK []) = G3 at *
  have pg := hg s3 G3 C cl fp
  have pt := ht s3 G3 C cl fp
  have pk := hk s3 G3 C cl fp
  have pe := he s3 G3 C cl fp
  have qi := hi1 s3 G3 C cl fp
  have qg := hg1 s3 G3 C cl fp
  have qt := ht1 s3 G3 C cl fp
  show codeAny _ _ (.compStart (dc2E kx vx tg iter tg1 iter1 ifs ifs1 scope pos) 0 (.ref it) (.ref D) (compEnvC scope cl C X.env)) (compPost (model X.prog X.w) X.A X.xe use Qf (.ref D) C) { s3 with heap := pushCells (s3.heap.push { cls := .type "dict", data := .dict #[] }) scope.names }
  generalize ece : compEnvC scope cl C X.env = ce at *
  have cL : ce.locals = C := by subst ece; rfl
  generalize es4 : ({ s3 with heap := pushCells (s3.heap.push { cls := .type "dict", data := .dict #[] }) scope.names } : Shared) = s4 at *
  have st4 : tn 0 s4.heap := U.keep _ _ _ st3 fun b _ o e => by rw [← es4]; exact pushCells_keeps _ _ _ _ (Heap.get?_push_of_some _ e)
  generalize eB : X.blk s3 G3 scope ce fp = B at *
  have bX : B.prog = X.prog := by subst eB; rfl
  have nfp : ∀ b ∈ fp, G3 b = none := fun b hb => (f3 b hb).1.1
  have stat : ∀ {τ : St} {G : Hp} {s' : Shared}, Inv B [] τ G s' → (∀ b ∈ fp, G b = none) → ∀ b ∈ fp, FpOk B [] G b := fun {τ G s'} I' hn b hb => by
    subst eB
    exact ⟨hn b hb, (I'.ok.exf b hb).1, I'.ok.exfs b hb, .inl hb, fun x c e => (I'.ok.exf b hb).2 x c e, fun p hp => absurd (show p ∈ ([] : List (Addr × Obj)) ++ [] from hp) (by simp)⟩
  generalize hns : own.map (·.2) = ns at *
  have main : codeAny (model X.prog X.w) X.A (.compLoop (dc2E kx vx tg iter tg1 iter1 ifs ifs1 scope pos) 0 (.ref it) (.ref D) ce) (compPost (model X.prog X.w) X.A X.xe use Qf (.ref D) C) s4 := by
    refine loop_out (hs1 ce) (fun n s' => ∃ i G, Inv B [] (wipe σ ns) G s' ∧ tn i s'.heap ∧ (∀ b ∈ fp, G b = none) ∧ W i n G) ?_ m0 ⟨0, G3, I4, st4, nfp, w0⟩
    rintro n s5 ⟨i, G5, I5, st5, n5, w5⟩
    rcases turn i n G5 w5 with ⟨stop, qq⟩ | ⟨more, Nx, hNx, step⟩
    · have td := U.done B (by subst eB; rfl) (by subst eB; rfl) (by subst eB; rfl) (by subst eB; exact hc) i [] s5 _ G5 (fun _ _ => False) I5 (stat I5 n5) st5 stop
      subst eB
      refine thn td fun r s6 ⟨hr, I6⟩ => ?_
      subst hr
      have I7 : Inv X pins σ G5 s6 := I3.call' (ch := fp) I6.os I6.base I6.hok I6.bare fun b hb => ⟨(f3 b hb).1.2.2.2.1, (f3 b hb).1.2.1, (f3 b hb).1.2.2.2.2.1, (f3 b hb).1.2.2.2.2.2⟩
      have nC : G5 C = none := by rw [← cL]; exact I6.free
      obtain ⟨m, hn, _⟩ := I6.loc
      rw [show ce.locals = C from cL] at hn
      exact hRR D C s6 m G5 I7 qq hn (I3.fpOk (b := C) (H' := G5) (Nat.le_of_eq eC) nC)
    · have ti := U.item B (by subst eB; rfl) (by subst eB; rfl) (by subst eB; rfl) (by subst eB; exact hc) i [] s5 _ G5 (fun _ _ => False) I5 (stat I5 n5) st5 more
      subst eB
      refine thn ti fun r s6 ⟨u, hr, h6⟩ => ?_
      subst hr
      refine thn h6 fun _ s7 ⟨x, G7, I7, r7, y7, st7, n7⟩ => ?_
      have J7 := I7.pinned (stat I7 n7) (U.obj _ _ st7)
      refine thn (pg.run _ s7 _ G7 x u _ J7 r7 (step x G7 y7)) fun _ s8 ⟨τ, G8, I8, w8, q8⟩ => ?_
      refine thn (pt.run _ s8 τ G8 _ I8 q8) fun b s9 ⟨G9, I9, q9⟩ => ?_
      -- a turn's end
      have fin : ∀ {ρ : St} {s' : Shared} {G : Hp}, Inv (X.blk s3 G3 scope ce fp) ([] ++ pinsAt fp s7.heap) ρ G s' → (wipe σ ns).length = ρ.length → (∀ (j : Nat) v, (wipe σ ns)[j]? = some (some v) → ρ[j]? = some (some v)) → Nx G →
          ∃ m, m < n ∧ ∃ i G, Inv (X.blk s3 G3 scope ce fp) [] (wipe σ ns) G s' ∧ tn i s'.heap ∧ (∀ b ∈ fp, G b = none) ∧ W i m G := fun {ρ s' G} I' hl hk nx => by
        obtain ⟨m', hm, w'⟩ := hNx G nx
        have pin : ∀ b ∈ fp, ∀ o, s7.heap.get? b = some o → s'.heap.get? b = some o ∧ G b = none := fun b hb o e =>
          let z := I'.pin (b, o) (List.mem_append_right _ (List.mem_append_right _ (mem_pinsAt hb e)))
          ⟨z.1, z.2.1⟩
        refine ⟨m', hm, i + 1, G, (I'.unpinned (pins := [])).weak hl hk, U.keep _ _ _ st7 fun b hb o e => (pin b hb o e).1, fun b hb => ?_, w'⟩
        obtain ⟨o, e, _⟩ := U.obj _ _ st7 b hb
        exact (pin b hb o e).2
      have l8 : (wipe σ ns).length = τ.length := by rw [← w8, wipe_length]
      have k8 : ∀ (j : Nat) v, (wipe σ ns)[j]? = some (some v) → τ[j]? = some (some v) := fun j v e => by rw [← w8] at e; exact (wipe_some e).1
      have k9 : ∀ (j : Nat) v, (wipe σ ns)[j]? = some (some v) → (wipe τ ns1)[j]? = some (some v) := fun j v e => by
        rw [← w8] at e
        obtain ⟨e1, e2⟩ := wipe_some e
        rw [wipe_out fun z => e2 (hv j z)]
        exact e1
      cases b with
      | false =>
        simp only [Bool.false_eq_true, if_false] at q9 ⊢
        exact fin I9 l8 k8 q9
      | true =>
        simp only [if_true] at q9 ⊢
        refine thn (qi.run _ s9 τ G9 _ I9 q9) fun xv s10 hx => thn hx fun jv s11 h11 => ?_
        obtain ⟨jt, fq, tm, J1, G11, rfl, I11, U1, st11, f11, V, ⟨m1, w1⟩, turn1⟩ := h11
        have stat1 : ∀ {G : Hp}, (∀ b ∈ fq, G b = none) → ∀ b ∈ fq, FpOk (X.blk s3 G3 scope ce fp) ([] ++ pinsAt fp s7.heap) G b := fun hn b hb => ⟨hn b hb, (f11 b hb).2⟩
        have inner : codeAny (model X.prog X.w) X.A (.compLoop (dc2E kx vx tg iter tg1 iter1 ifs ifs1 scope pos) 1 (.ref jt) (.ref D) ce)
            (fun r s' => match r with
              | .ok _ => ∃ m, m < n ∧ ∃ i G, Inv (X.blk s3 G3 scope ce fp) [] (wipe σ ns) G s' ∧ tn i s'.heap ∧ (∀ b ∈ fp, G b = none) ∧ W i m G
              | .error _ => False) s11 := by
          refine loop_in (fun k s' => ∃ j G, Inv (X.blk s3 G3 scope ce fp) ([] ++ pinsAt fp s7.heap) (wipe τ ns1) G s' ∧ tm j s'.heap ∧ (∀ b ∈ fq, G b = none) ∧ V j k G) ?_ m1 ⟨0, G11, I11.weak (wipe_length _ _) (fun j v e => (wipe_some e).1), st11, fun b hb => (f11 b hb).1, w1⟩
          rintro k s12 ⟨j, G12, I12, st12, n12, w12⟩
          rcases turn1 j k G12 w12 with ⟨stop1, nx1⟩ | ⟨more1, Ny, hNy, step1⟩
          · refine thn (U1.done (X.blk s3 G3 scope ce fp) rfl rfl rfl hc j _ s12 (wipe τ ns1) G12 (fun _ _ => False) I12 (stat1 n12) st12 stop1) fun r s13 ⟨hr, I13⟩ => ?_
            subst hr
            exact fin I13 (l8.trans (wipe_length τ ns1).symm) k9 nx1
          · refine thn (U1.item (X.blk s3 G3 scope ce fp) rfl rfl rfl hc j _ s12 (wipe τ ns1) G12 (fun _ _ => False) I12 (stat1 n12) st12 more1) fun r s13 ⟨u1, hr, h13⟩ => ?_
            subst hr
            refine thn h13 fun _ s14 ⟨x1, G14, I14, r14, y14, st14, n14⟩ => ?_
            have J14 := I14.pinned (stat1 n14) (U1.obj _ _ st14)
            refine thn (qg.run _ s14 (wipe τ ns1) G14 x1 u1 _ J14 r14 (step1 x1 G14 y14)) fun _ s15 ⟨ρ, G15, I15, w15, q15⟩ => ?_
            refine thn (qt.run _ s15 ρ G15 _ I15 q15) fun b1 s16 ⟨G16, I16, q16⟩ => ?_
            have fin1 : ∀ {s' : Shared} {G : Hp}, Inv (X.blk s3 G3 scope ce fp) (([] ++ pinsAt fp s7.heap) ++ pinsAt fq s14.heap) ρ G s' → Ny G → ∃ m, m < k ∧ ∃ j G, Inv (X.blk s3 G3 scope ce fp) ([] ++ pinsAt fp s7.heap) (wipe τ ns1) G s' ∧ tm j s'.heap ∧ (∀ b ∈ fq, G b = none) ∧ V j m G := fun {s' G} I' nx => by
              obtain ⟨m', hm, w'⟩ := hNy G nx
              have pin : ∀ b ∈ fq, ∀ o, s14.heap.get? b = some o → s'.heap.get? b = some o ∧ G b = none := fun b hb o e =>
                let z := I'.pin (b, o) (List.mem_append_right _ (List.mem_append_right _ (mem_pinsAt hb e)))
                ⟨z.1, z.2.1⟩
              refine ⟨m', hm, j + 1, G, I'.unpinned.weak (by rw [← w15, wipe_length]) (fun j v e => by rw [← w15] at e; exact (wipe_some e).1), U1.keep _ _ _ st14 fun b hb o e => (pin b hb o e).1, fun b hb => ?_, w'⟩
              obtain ⟨o, e, _⟩ := U1.obj _ _ st14 b hb
              exact (pin b hb o e).2
            cases b1 with
            | false =>
              simp only [Bool.false_eq_true, if_false] at q16 ⊢
              exact fin1 I16 q16
            | true =>
              simp only [if_true] at q16 ⊢
              refine thn (pk.run _ s16 ρ G16 _ I16 q16) fun z s17 ⟨yk, G17, I17, r17, q17⟩ => ?_
              refine thn (pe.run _ s17 ρ G17 _ I17 q17) fun z2 s18 ⟨yv, G18, I18, r18, kvs, key, ek, hD18, hz18, nx⟩ => ?_
              subst ek
              exact d_dictSet (X := X.blk s3 G3 scope ce fp) I18 hD18 hz18 r17 r18 fun s19 I19 => fin1 I19 nx
        exact start_in inner (U1.self X.A 0 _ _ _ st11 inner)
  exact codeAny_compStart_dict main (U.self X.A 0 _ _ _ st4 main)
/-- as a value -/
theorem pe_dc2 {kx vx tg iter tg1 iter1 : Expr} {ifs ifs1 : List Expr} {scope : Scope} {own : List (PySem.Str × Nat)} {ns1 : List Nat} {pos : Pos} {wo wi : TI} {go gi : TG} {to ti : TT} {tk tv : TE} (hc : X.calm = true) (hN : X.N.Nodup) (ho : PI X tg iter wo) (ok : BlkOk X.N X.env.scope scope own) (hv : ∀ i ∈ ns1, i ∈ own.map (·.2))
    (hg : ∀ (s : Shared) (H : Hp) (C : Addr) (cl : List (PySem.Str × Addr)) (fp : List Addr), PG (X.blk s H scope (compEnvC scope cl C X.env) fp) tg go) (ht : ∀ (s : Shared) (H : Hp) (C : Addr) (cl : List (PySem.Str × Addr)) (fp : List Addr), PTs (X.blk s H scope (compEnvC scope cl C X.env) fp) ifs to)
    (hi1 : ∀ (s : Shared) (H : Hp) (C : Addr) (cl : List (PySem.Str × Addr)) (fp : List Addr), PI (X.blk s H scope (compEnvC scope cl C X.env) fp) tg1 iter1 wi)
    (hg1 : ∀ (s : Shared) (H : Hp) (C : Addr) (cl : List (PySem.Str × Addr)) (fp : List Addr), PG (X.blk s H scope (compEnvC scope cl C X.env) fp) tg1 gi) (ht1 : ∀ (s : Shared) (H : Hp) (C : Addr) (cl : List (PySem.Str × Addr)) (fp : List Addr), PTs (X.blk s H scope (compEnvC scope cl C X.env) fp) ifs1 ti)
    (hk : ∀ (s : Shared) (H : Hp) (C : Addr) (cl : List (PySem.Str × Addr)) (fp : List Addr), PE (X.blk s H scope (compEnvC scope cl C X.env) fp) kx tk) (he : ∀ (s : Shared) (H : Hp) (C : Addr) (cl : List (PySem.Str × Addr)) (fp : List Addr), PE (X.blk s H scope (compEnvC scope cl C X.env) fp) vx tv)
    (hs : ∀ x, foldedSetIterable iter X.env x = pure x := by intro _; rfl) (hs1 : ∀ env x, foldedSetIterable iter1 env x = pure x := by intro _ _; rfl) :
    PE X (dc2E kx vx tg iter tg1 iter1 ifs ifs1 scope pos) (tDc2 wo go to wi gi ti tk tv (own.map (·.2)) ns1) := by
  refine ⟨fun pins s σ H Q I h => ?_⟩
  rw [arm_eval_DictComp]
  refine dc2_core hc hN ho ok hv hg ht hi1 hg1 ht1 hk he hs hs1 I h fun D C s' m G I' q hn f => ⟨m, hn, fun h'' sb => ?_⟩
  obtain ⟨g0, g1, g2, g3, g4, g5⟩ := f
  exact ⟨.ref D, G, I'.turned (t' := s'.toks) (fun b o hb e => (sb.2 b hb).trans e) g0 g1 g3 g4 g5, rfl, q⟩
/-- stored at once in a local name -/
theorem ps_setDc2 {i : Nat} {y : PySem.Str} {py spos : Pos} {kx vx tg iter tg1 iter1 : Expr} {ifs ifs1 : List Expr} {scope : Scope} {own : List (PySem.Str × Nat)} {ns1 : List Nat} {pos : Pos} {wo wi : TI} {go gi : TG} {to ti : TT} {tk tv : TE} (hc : X.calm = true) (hN : X.N.Nodup) (hy : X.N[i]? = some y) (hyl : X.env.scope.names.lookup y = some .local)
    (hsw : swapsWith (dc2E kx vx tg iter tg1 iter1 ifs ifs1 scope pos) (some (.Name y py)) spos.line X.env = pure true) (ho : PI X tg iter wo) (ok : BlkOk X.N X.env.scope scope own) (hv : ∀ i ∈ ns1, i ∈ own.map (·.2))
    (hg : ∀ (s : Shared) (H : Hp) (C : Addr) (cl : List (PySem.Str × Addr)) (fp : List Addr), PG (X.blk s H scope (compEnvC scope cl C X.env) fp) tg go) (ht : ∀ (s : Shared) (H : Hp) (C : Addr) (cl : List (PySem.Str × Addr)) (fp : List Addr), PTs (X.blk s H scope (compEnvC scope cl C X.env) fp) ifs to)
    (hi1 : ∀ (s : Shared) (H : Hp) (C : Addr) (cl : List (PySem.Str × Addr)) (fp : List Addr), PI (X.blk s H scope (compEnvC scope cl C X.env) fp) tg1 iter1 wi)
    (hg1 : ∀ (s : Shared) (H : Hp) (C : Addr) (cl : List (PySem.Str × Addr)) (fp : List Addr), PG (X.blk s H scope (compEnvC scope cl C X.env) fp) tg1 gi) (ht1 : ∀ (s : Shared) (H : Hp) (C : Addr) (cl : List (PySem.Str × Addr)) (fp : List Addr), PTs (X.blk s H scope (compEnvC scope cl C X.env) fp) ifs1 ti)
    (hk : ∀ (s : Shared) (H : Hp) (C : Addr) (cl : List (PySem.Str × Addr)) (fp : List Addr), PE (X.blk s H scope (compEnvC scope cl C X.env) fp) kx tk) (he : ∀ (s : Shared) (H : Hp) (C : Addr) (cl : List (PySem.Str × Addr)) (fp : List Addr), PE (X.blk s H scope (compEnvC scope cl C X.env) fp) vx tv)
    (hs : ∀ x, foldedSetIterable iter X.env x = pure x := by intro _; rfl) (hs1 : ∀ env x, foldedSetIterable iter1 env x = pure x := by intro _ _; rfl) :
    PS X (.Assign [.Name y py] (dc2E kx vx tg iter tg1 iter1 ifs ifs1 scope pos) spos) (tAsg (tDc2 wo go to wi gi ti tk tv (own.map (·.2)) ns1) (gName i)) := by
  refine ⟨fun pins s σ H D I h => ?_⟩
  rw [exec_Assign_Name_used _ _ _ _ hsw]
  refine wpAny_bind (wpAny_standAt (wpAny_bind ?_))
  show wpAny _ X.A (do let _ ← comprehension (dc2E kx vx tg iter tg1 iter1 ifs ifs1 scope pos) scope X.env (firstIterPos [⟨tg, iter, ifs, 0⟩, ⟨tg1, iter1, ifs1, 0⟩] pos) newDict false (eval iter X.env) (some (assign (.Name y py) X.env))) _ _ s
  have h2 : tDc2 wo go to wi gi ti tk tv (own.map (·.2)) ns1 σ H (fun x H1 => gName i x σ H1 D.nx) := h
  refine wpAny_bind (thn (dc2_core (Qf := fun _ s' => SP X pins D .next s') hc hN ho ok hv hg ht hi1 hg1 ht1 hk he hs hs1 I h2 fun L C s' m G I' q hn f => ?_) fun _ s' hq => wpAny_pure (wpAny_pure hq))
  show wpAny _ _ (assign (.Name y py) X.env (.ref L)) _ _ _
  refine wpAny_assign_Name (store_ok2 (v := V.ref L) I' hN hy (.inl hyl) rfl (fun s2 I2 ⟨a, sb, ha⟩ => ?_) (.inr hyl))
  obtain ⟨g0, g1, g2, g3, g4, g5⟩ := f
  have ne : C ≠ a := ha.elim (fun z => by rw [z]; exact g1) fun z e => g4 y a z e.symm
  exact ⟨m, hn.sameBut sb ne, fun h3 sb3 => ⟨_, G, I2.turned (t' := s2.toks) (fun b o hb e => (sb3.2 b hb).trans e) g0 g1 g3 g4 g5, q⟩⟩
end
end Ev
end P_Ev17

noncomputable section P_Ev18
set_option Elab.async false
set_option linter.all false
set_option maxRecDepth 100000
/-! Ev18: comprehensions of two clauses on data. -/
namespace Ev
open PySem L2 PySem.Spec
open PyProof.Rows hiding St
set_option autoImplicit false

def lc2in (b : T → M Unit) (C : M Bool) (L : Ob → M Ob) (ns : List Nat) : Ob → List T → M Ob
  | o, [] => fun e => .ok o e
  | o, t :: ts => (nox (b t)).bind fun _ => (nox C).bind fun c => if c then (nox (L o)).bind fun o' e => lc2in b C L ns o' ts (wipeE e ns)
      else fun e => lc2in b C L ns o ts (wipeE e ns)
def lc2out (b : T → M Unit) (C : M Bool) (S : M (List T)) (b1 : T → M Unit) (C1 : M Bool) (L : Ob → M Ob) (ns ns1 : List Nat) : Ob → List T → M Ob
  | o, [] => fun e => .ok o e
  | o, t :: ts => (nox (b t)).bind fun _ => (nox C).bind fun c => if c then (nox S).bind fun us e => (lc2in b1 C1 L ns1 o us (wipeE e ns1)).bind fun o' e => lc2out b C S b1 C1 L ns ns1 o' ts (wipeE e ns)
      else fun e => lc2out b C S b1 C1 L ns ns1 o ts (wipeE e ns)
def mLc2 (S : M (List T)) (b : T → M Unit) (C : M Bool) (S1 : M (List T)) (b1 : T → M Unit) (C1 : M Bool) (L : Ob → M Ob) (ns ns1 : List Nat) (o : Ob) : M Vw := S.bind fun ts e => if clear e ns then (lc2out b C S1 b1 C1 L ns ns1 o ts e).bind fun o e => .ok (.fr o) e else .no
theorem sw_trueD {kx vx : Expr} {gs : List Comprehension} {scope : Scope} {pos py : Pos} {y : PySem.Str} {l : Nat} {env : Env} (hk : env.scope.kind = .function) (hy : env.scope.names.lookup y = some .local) (hl : (py.line == pos.line) = true)
    (ha : (scope.names.any fun (n, k) => n == y && (k == .local || k == .cell)) = false) : swapsWith (.DictComp kx vx gs scope pos) (some (.Name y py)) l env = pure true := by
  have h1 : env.kindOf y = some .local := hy
  have h2 : env.blockKind = .function := by unfold Env.blockKind; rw [hk]; rfl
  unfold swapsWith
  simp only [h1, h2, ha, Expr.pos, hl]
  rfl
/-- as the rules read them: lf what a turn does -/
def tG2 (wo : TI) (go : TG) (to : TT) (wi : TI) (gi : TG) (ti : TT) (u0 : HO) (lf : Addr → St → Hp → (Hp → Prop) → Prop) (ns ns1 : List Nat) : TE := fun σ H Q => wo σ H fun J G => ∀ D, G D = none → ∃ W : Nat → Nat → Hp → Prop, (∃ m, W 0 m (upd G D u0)) ∧ ∀ i m H, W i m H →
  (J.stop i H ∧ Q (.ref D) H) ∨ (J.go i H ∧ ∃ Nx : Hp → Prop, (∀ G, Nx G → ∃ m', m' < m ∧ W (i + 1) m' G) ∧ ∀ x G, J.yld i H x G → go x (wipe σ ns) G fun τ G2 => wipe τ ns = wipe σ ns ∧ to τ G2 fun b G3 =>
    if b = true then wi τ G3 fun J1 G4 => ∃ V : Nat → Nat → Hp → Prop, (∃ m, V 0 m G4) ∧ ∀ j k H, V j k H →
      (J1.stop j H ∧ Nx H) ∨ (J1.go j H ∧ ∃ Ny : Hp → Prop, (∀ G, Ny G → ∃ k', k' < k ∧ V (j + 1) k' G) ∧ ∀ x G, J1.yld j H x G → gi x (wipe τ ns1) G fun ρ G5 => wipe ρ ns1 = wipe τ ns1 ∧ ti ρ G5 fun b G6 =>
        if b = true then lf D ρ G6 Ny else Ny G6)
    else Nx G3)
/-- a turn's deed on the thing at D -/
def Leaf (K : KB) (L : Ob → M Ob) (lf : Addr → St → Hp → (Hp → Prop) → Prop) : Prop := ∀ {Z : SetA} {env e' : Sls} {τ : St} {H : Hp} {D : Addr} {o o' : Ob} {N : Hp → Prop}, RepEnv K Z env τ H → Z D → RepOb K (hid Z env τ H) H D o → L o env = .ok o' e' →
  (∀ H' u, Post K Z env τ H Z e' τ H' → Kp env e' → RepOb K (hid Z e' τ H') (upd H' D u) D o' → N (upd H' D u)) → lf D τ H N
theorem wipe_in {j : Nat} : ∀ {σ : St} {vs : List Nat}, j ∈ vs → (wipe σ vs)[j]? = if j < σ.length then some none else none
  | σ, v :: vs, h => by
    unfold wipe
    rw [List.getElem?_set, wipe_length]
    by_cases z : v = j
    · simp [z]
    · rw [if_neg z]
      exact wipe_in ((List.mem_cons.mp h).resolve_left fun y => z y.symm)
theorem wipe_wipe {σ : St} {vs ws : List Nat} (h : ∀ i, i ∈ ws → i ∈ vs) : wipe (wipe σ ws) vs = wipe σ vs := by
  apply List.ext_getElem?
  intro j
  by_cases q : j ∈ vs
  · rw [wipe_in q, wipe_in q, wipe_length]
  · rw [wipe_out q, wipe_out q, wipe_out fun z => q (h j z)]
section
variable {W : WB} {σ : St} {Z : SetA} {env : Sls} {H : Hp} {X : Cx}
theorem rd_g2 {S S1 : M (List T)} {b b1 : T → M Unit} {C C1 : M Bool} {L : Ob → M Ob} {ns ns1 : List Nat} {t t1 : TG} {tg tg1 : Expr} {Q : VK} {X' : Cx} {u0 : HO} {o0 : Ob} {lf : Addr → St → Hp → (Hp → Prop) → Prop} (hK : X'.K = X.K) (hG : X'.g = X.g)
    (hg : XG X' tg b t) (hw : Wp t ns) (hm : ∀ x σ H Q Q', (∀ σ H, Q σ H → Q' σ H) → t x σ H Q → t x σ H Q') (hg1 : XG X' tg1 b1 t1) (hw1 : Wp t1 ns1) (hm1 : ∀ x σ H Q Q', (∀ σ H, Q σ H → Q' σ H) → t1 x σ H Q → t1 x σ H Q') (hsub : ∀ i, i ∈ ns1 → i ∈ ns)
    (h0 : ∀ (G H : Hp) D, RepOb (kb X.g W) G (upd H D u0) D o0) (hL : Leaf (kb X.g W) L lf) (h : tE X.g W (mLc2 S b C S1 b1 C1 L ns ns1 o0) σ H Q) :
    tG2 (tI X.g W S) t (tT X.g (WF W) C) (tI X.g (WF W) S1) t1 (tT X.g (WF W) C1) u0 lf ns ns1 σ H Q := by
  have hok := @XG.ok X' tg b t hg
  rw [hK, hG] at hok
  have hok1 := @XG.ok X' tg1 b1 t1 hg1
  rw [hK, hG] at hok1
  obtain ⟨Z, env0, rE, h⟩ := h
  refine ⟨Z, env0, rE, (Out.bind0 rE h).mono fun J H1 ⟨Z1, env1, ts, p1, k1, ⟨inv, sr, hinv⟩, c1⟩ => ?_⟩
  intro D hD
  split at c1
  case isFalse => exact c1.elim
  rename_i hcl
  have hc := clear_ok hcl
  have pD := Post.hide (u := u0) p1.rep hD
  have hD0 : H D = none := p1.none hD
  have hswap : ∀ {Z' : SetA} {e : Sls} {s : St} {H' : Hp}, RepEnv (kb X.g W) Z' e s H' → (∀ i, i ∈ ns → ∀ x, e[i]? = some x → x = Sl.non) → wipe s ns = wipe σ ns → s.length = σ.length → Post (kb X.g W) Z' e s H' Z' e (wipe σ ns) H' := fun r q w l =>
    swap_post r q (fun i hi => by rw [← w, wipe_out hi]) (by rw [wipe_length, l])
  have p2 := (p1.trans pD).trans (hswap pD.rep hc rfl rfl)
  generalize eF : (fun r : R Ob => Out X.g W (LE (kb X.g W) σ) σ Q Z env0 H (r.bind fun o e => .ok (.fr o) e)) = F
  have Fno : ¬ F .no := by rw [← eF]; exact fun z => z
  have cF : F (lc2out b C S1 b1 C1 L ns ns1 o0 ts env1) := by rw [← eF]; exact c1
  refine ⟨fun i m H' => m = ts.length - i ∧ i ≤ ts.length ∧ ∃ env o, Post (kb X.g W) Z env0 σ H (fun p => Z1 p ∨ p = D) env (wipe σ ns) H' ∧ (∀ i, i ∈ ns → ∀ x, env[i]? = some x → x = Sl.non) ∧ (∀ i, i ∉ ns → Full env0 i → Full env i) ∧
      RepOb (kb X.g W) (hid (fun p => Z1 p ∨ p = D) env (wipe σ ns) H') H' D o ∧ inv (hid (fun p => Z1 p ∨ p = D) env (wipe σ ns) H') H' ∧ F (lc2out b C S1 b1 C1 L ns ns1 o (ts.drop i) env),
    ⟨ts.length, by simp, Nat.zero_le _, env1, o0, p2, hc, fun i _ f => k1 i f, h0 _ _ _, ?_, by simpa using cF⟩, ?_⟩
  · exact sr.mono hinv (fun q o e => (hswap pD.rep hc rfl rfl).same _ _ (pD.same _ _ e)) hid_le
  rintro i m H' ⟨rfl, hi, env, o, p, hcl', hk, ho, hv, hf⟩
  by_cases hlt : i < ts.length
  · refine .inr ⟨sr.go hid_le hv hlt, fun H'' => i + 1 ≤ ts.length ∧ ∃ env o, Post (kb X.g W) Z env0 σ H (fun p => Z1 p ∨ p = D) env (wipe σ ns) H'' ∧ (∀ i, i ∈ ns → ∀ x, env[i]? = some x → x = Sl.non) ∧ (∀ i, i ∉ ns → Full env0 i → Full env i) ∧
      RepOb (kb X.g W) (hid (fun p => Z1 p ∨ p = D) env (wipe σ ns) H'') H'' D o ∧ inv (hid (fun p => Z1 p ∨ p = D) env (wipe σ ns) H'') H'' ∧ F (lc2out b C S1 b1 C1 L ns ns1 o (ts.drop (i + 1)) env),
      fun H'' hN => ⟨ts.length - (i + 1), by omega, rfl, hN⟩, fun x H'' hy => ?_⟩
    obtain ⟨d, hd, sm, hx⟩ := sr.yld hid_le hv hy hlt
    have ed : ts.drop i = d :: ts.drop (i + 1) := by
      rw [List.drop_eq_getElem_cons hlt]
      have := List.getElem?_eq_getElem hlt
      rw [hd] at this
      injection this with this
      rw [this]
    rw [ed] at hf
    unfold lc2out at hf
    obtain ⟨u, e1, q1, hf⟩ := nox_some (P := F) Fno hf
    cases u
    obtain ⟨c, e2, q2, hf⟩ := nox_some (P := F) Fno hf
    have pg := Post.grow p.rep sm
    have hxd : Rp X.K (hid (fun p => Z1 p ∨ p = D) env (wipe σ ns) H'') x d := hx _ pg.same fun q o z1 z2 => by
      refine hid_some.mpr ⟨fun hz => ?_, fun so => ?_, z2⟩
      · obtain ⟨o', e⟩ := p.rep.zd q hz
        rw [z1] at e; cases e
      · obtain ⟨o', e⟩ := p.rep.so_dom so
        rw [z1] at e; cases e
    refine hm _ _ _ _ _ ?_ (hw _ _ _ _ (hok pg.rep hxd q1 (Q := fun s h => h = H'' ∧ Post (kb X.g W) (fun p => Z1 p ∨ p = D) env (wipe σ ns) H'' (fun p => Z1 p ∨ p = D) e1 s H'') fun s ps => ⟨rfl, ps⟩))
    rintro s2 H2 ⟨⟨rfl, ps⟩, ws⟩
    rw [wipe_wipe fun _ h => h] at ws
    refine ⟨ws, (fun p => Z1 p ∨ p = D), e1, ps.rep, ?_⟩
    rw [q2]
    intro bb H3 Z3 p3 k3 l3
    have ec : c = bb := l3
    subst ec
    have t3 := ((pg.trans ps).trans p3).lessZ
    have ke1 : ∀ j, j ∉ ns → Full env0 j → Full e1 j := fun j hj f => hg.kp q1 j (hk j hj f)
    have oD : ∀ {e : Sls} {s : St} {H5 : Hp} {o : Ob} {e' : Sls} {s' : St} {H6 : Hp}, RepOb (kb X.g W) (hid (fun p => Z1 p ∨ p = D) e s H5) H5 D o → RepEnv (kb X.g W) (fun p => Z1 p ∨ p = D) e s H5 → Post (kb X.g W) (fun p => Z1 p ∨ p = D) e s H5 (fun p => Z1 p ∨ p = D) e' s' H6 → RepOb (kb X.g W) (hid (fun p => Z1 p ∨ p = D) e' s' H6) H6 D o :=
      fun r rr pp => r.mono pp.same fun u z => pp.fr D u z fun so => rr.z_so (.inr rfl) so
    -- the turn's end
    have fin : ∀ {e : Sls} {s : St} {H5 : Hp} {o : Ob}, Post (kb X.g W) Z env0 σ H (fun p => Z1 p ∨ p = D) e s H5 → wipe s ns = wipe σ ns → inv (hid (fun p => Z1 p ∨ p = D) e s H5) H5 → (∀ j, j ∉ ns → Full env0 j → Full e j) → RepOb (kb X.g W) (hid (fun p => Z1 p ∨ p = D) e s H5) H5 D o →
        F (lc2out b C S1 b1 C1 L ns ns1 o (ts.drop (i + 1)) (wipeE e ns)) → i + 1 ≤ ts.length ∧ ∃ env o, Post (kb X.g W) Z env0 σ H (fun p => Z1 p ∨ p = D) env (wipe σ ns) H5 ∧ (∀ i, i ∈ ns → ∀ x, env[i]? = some x → x = Sl.non) ∧ (∀ i, i ∉ ns → Full env0 i → Full env i) ∧
      RepOb (kb X.g W) (hid (fun p => Z1 p ∨ p = D) env (wipe σ ns) H5) H5 D o ∧ inv (hid (fun p => Z1 p ∨ p = D) env (wipe σ ns) H5) H5 ∧ F (lc2out b C S1 b1 C1 L ns ns1 o (ts.drop (i + 1)) env) := by
      intro e s H5 o pe we ve ke re fe
      have pw := wipe_post (vs := ns) pe.rep
      rw [we] at pw
      refine ⟨hlt, wipeE e ns, o, pe.trans pw, fun i hi x e => wipeE_in hi e, fun j hj f => ?_, oD re pe.rep pw, sr.mono ve pw.same hid_le, fe⟩
      unfold Full
      rw [wipeE_out hj]
      exact ke j hj f
    cases c with
    | false =>
      rw [if_neg Bool.false_ne_true] at hf
      rw [if_neg Bool.false_ne_true]
      exact fin (p.trans t3) ws (sr.mono hv t3.same hid_le) (fun j hj f => k3 j (ke1 j hj f)) (oD ho p.rep t3) hf
    | true =>
      rw [if_pos rfl] at hf
      rw [if_pos rfl]
      obtain ⟨us, e3, q3, hf⟩ := nox_some (P := F) Fno hf
      refine ⟨(fun p => Z1 p ∨ p = D), e2, t3.rep, ?_⟩
      rw [q3]
      intro J1 H4 Z4 p4 k4 ⟨inv1, sr1, hinv1⟩
      have p4' := p4.lessZ
      have t4 := t3.trans p4'
      have T4 := p.trans t4
      have pw4 := wipe_post (vs := ns1) p4'.rep
      have T5 := T4.trans pw4
      have ke3 : ∀ j, j ∉ ns → Full env0 j → Full e3 j := fun j hj f => k4 j (k3 j (ke1 j hj f))
      refine ⟨fun j k H5 => k = us.length - j ∧ j ≤ us.length ∧ ∃ env o, Post (kb X.g W) Z env0 σ H (fun p => Z1 p ∨ p = D) env (wipe s2 ns1) H5 ∧ (∀ j, j ∉ ns → Full env0 j → Full env j) ∧ RepOb (kb X.g W) (hid (fun p => Z1 p ∨ p = D) env (wipe s2 ns1) H5) H5 D o ∧
          inv (hid (fun p => Z1 p ∨ p = D) env (wipe s2 ns1) H5) H5 ∧ inv1 (hid (fun p => Z1 p ∨ p = D) env (wipe s2 ns1) H5) H5 ∧ F ((lc2in b1 C1 L ns1 o (us.drop j) env).bind fun o' e => lc2out b C S1 b1 C1 L ns ns1 o' (ts.drop (i + 1)) (wipeE e ns)),
        ⟨us.length, by simp, Nat.zero_le _, wipeE e3 ns1, o, T5, fun j hj f => ?_, oD (oD ho p.rep t4) t4.rep pw4, sr.mono hv (fun q u e => pw4.same _ _ (t4.same _ _ e)) hid_le, sr1.mono hinv1 (fun q u e => pw4.same _ _ (hid_lessZ p4.zs _ _ e)) hid_le, by simpa using hf⟩, ?_⟩
      · unfold Full
        rw [wipeE_out fun z => hj (hsub j z)]
        exact ke3 j hj f
      rintro j k H5 ⟨rfl, hj, env5, o5, P5, kk5, r5, v5, v15, f5⟩
      by_cases hlt1 : j < us.length
      · refine .inr ⟨sr1.go hid_le v15 hlt1, fun H6 => j + 1 ≤ us.length ∧ ∃ env o, Post (kb X.g W) Z env0 σ H (fun p => Z1 p ∨ p = D) env (wipe s2 ns1) H6 ∧ (∀ j, j ∉ ns → Full env0 j → Full env j) ∧ RepOb (kb X.g W) (hid (fun p => Z1 p ∨ p = D) env (wipe s2 ns1) H6) H6 D o ∧
          inv (hid (fun p => Z1 p ∨ p = D) env (wipe s2 ns1) H6) H6 ∧ inv1 (hid (fun p => Z1 p ∨ p = D) env (wipe s2 ns1) H6) H6 ∧ F ((lc2in b1 C1 L ns1 o (us.drop (j + 1)) env).bind fun o' e => lc2out b C S1 b1 C1 L ns ns1 o' (ts.drop (i + 1)) (wipeE e ns)),
          fun H6 hN => ⟨us.length - (j + 1), by omega, rfl, hN⟩, fun x1 H6 hy1 => ?_⟩
        obtain ⟨d1, hd1, sm1, hx1⟩ := sr1.yld hid_le v15 hy1 hlt1
        have ed1 : us.drop j = d1 :: us.drop (j + 1) := by
          rw [List.drop_eq_getElem_cons hlt1]
          have := List.getElem?_eq_getElem hlt1
          rw [hd1] at this
          injection this with this
          rw [this]
        rw [ed1] at f5
        unfold lc2in at f5
        generalize eF1 : (fun r : R Ob => F (r.bind fun o' e => lc2out b C S1 b1 C1 L ns ns1 o' (ts.drop (i + 1)) (wipeE e ns))) = F1 at *
        have F1no : ¬ F1 .no := by rw [← eF1]; exact Fno
        have f6 : F1 (((nox (b1 d1)).bind fun _ => (nox C1).bind fun c => if c = true then (nox (L o5)).bind fun o' e => lc2in b1 C1 L ns1 o' (us.drop (j + 1)) (wipeE e ns1) else fun e => lc2in b1 C1 L ns1 o5 (us.drop (j + 1)) (wipeE e ns1)) env5) := by rw [← eF1]; exact f5
        have F1d : ∀ r, F1 r → F (r.bind fun o' e => lc2out b C S1 b1 C1 L ns ns1 o' (ts.drop (i + 1)) (wipeE e ns)) := fun r h => by rw [← eF1] at h; exact h
        obtain ⟨u, e6, q6, f6⟩ := nox_some (P := F1) F1no f6
        cases u
        obtain ⟨c1, e7, q7, f6⟩ := nox_some (P := F1) F1no f6
        have pg1 := Post.grow P5.rep sm1
        have hxd1 : Rp X.K (hid (fun p => Z1 p ∨ p = D) env5 (wipe s2 ns1) H6) x1 d1 := hx1 _ pg1.same fun q o z1 z2 => by
          refine hid_some.mpr ⟨fun hz => ?_, fun so => ?_, z2⟩
          · obtain ⟨o', e⟩ := P5.rep.zd q hz
            rw [z1] at e; cases e
          · obtain ⟨o', e⟩ := P5.rep.so_dom so
            rw [z1] at e; cases e
        refine hm1 _ _ _ _ _ ?_ (hw1 _ _ _ _ (hok1 pg1.rep hxd1 q6 (Q := fun s h => h = H6 ∧ Post (kb X.g W) (fun p => Z1 p ∨ p = D) env5 (wipe s2 ns1) H6 (fun p => Z1 p ∨ p = D) e6 s H6) fun s ps => ⟨rfl, ps⟩))
        rintro ρ H7 ⟨⟨rfl, ps1⟩, ws1⟩
        rw [wipe_wipe fun _ h => h] at ws1
        refine ⟨ws1, (fun p => Z1 p ∨ p = D), e6, ps1.rep, ?_⟩
        rw [q7]
        intro bb1 H8 Z8 p8 k8 l8
        have ec1 : c1 = bb1 := l8
        subst ec1
        have t8 := ((pg1.trans ps1).trans p8).lessZ
        have fin1 : ∀ {e : Sls} {H9 : Hp} {o : Ob}, Post (kb X.g W) Z env0 σ H (fun p => Z1 p ∨ p = D) e ρ H9 → inv (hid (fun p => Z1 p ∨ p = D) e ρ H9) H9 → inv1 (hid (fun p => Z1 p ∨ p = D) e ρ H9) H9 → (∀ j, j ∉ ns → Full env0 j → Full e j) → RepOb (kb X.g W) (hid (fun p => Z1 p ∨ p = D) e ρ H9) H9 D o →
            F1 (lc2in b1 C1 L ns1 o (us.drop (j + 1)) (wipeE e ns1)) → j + 1 ≤ us.length ∧ ∃ env o, Post (kb X.g W) Z env0 σ H (fun p => Z1 p ∨ p = D) env (wipe s2 ns1) H9 ∧ (∀ j, j ∉ ns → Full env0 j → Full env j) ∧ RepOb (kb X.g W) (hid (fun p => Z1 p ∨ p = D) env (wipe s2 ns1) H9) H9 D o ∧
          inv (hid (fun p => Z1 p ∨ p = D) env (wipe s2 ns1) H9) H9 ∧ inv1 (hid (fun p => Z1 p ∨ p = D) env (wipe s2 ns1) H9) H9 ∧ F ((lc2in b1 C1 L ns1 o (us.drop (j + 1)) env).bind fun o' e => lc2out b C S1 b1 C1 L ns ns1 o' (ts.drop (i + 1)) (wipeE e ns)) := by
          intro e H9 o pe ve ve1 ke re fe
          have pw := wipe_post (vs := ns1) pe.rep
          rw [ws1] at pw
          refine ⟨hlt1, wipeE e ns1, o, pe.trans pw, fun j hj f => ?_, oD re pe.rep pw, sr.mono ve pw.same hid_le, sr1.mono ve1 pw.same hid_le, F1d _ fe⟩
          unfold Full
          rw [wipeE_out fun z => hj (hsub j z)]
          exact ke j hj f
        have ke7 : ∀ j, j ∉ ns → Full env0 j → Full e7 j := fun j hj f => k8 j (hg1.kp q6 j (kk5 j hj f))
        cases c1 with
        | false =>
          rw [if_neg Bool.false_ne_true] at f6
          rw [if_neg Bool.false_ne_true]
          exact fin1 (P5.trans t8) (sr.mono v5 t8.same hid_le) (sr1.mono v15 t8.same hid_le) ke7 (oD r5 P5.rep t8) f6
        | true =>
          rw [if_pos rfl] at f6
          rw [if_pos rfl]
          obtain ⟨o', e9, q9, f6⟩ := nox_some (P := F1) F1no f6
          refine hL t8.rep (.inr rfl) (oD r5 P5.rep t8) q9 fun H9 u p9 k9 r9 => ?_
          have t9 := t8.trans p9
          have hu := hid_updZ (Z := fun p => Z1 p ∨ p = D) (env := e9) (σ := ρ) (H := H9) (D := D) (u := u) (.inr rfl)
          have PP := (P5.trans t9).updZ (u := u) (.inr rfl) hD0
          have up : Same (hid (fun p => Z1 p ∨ p = D) e9 ρ H9) (upd H9 D u) := by rw [← hu]; exact hid_le
          refine fin1 PP ?_ ?_ (fun j hj f => k9 j (ke7 j hj f)) (by rw [hu]; exact r9) f6
          · rw [hu]
            exact sr.mono v5 t9.same up
          · rw [hu]
            exact sr1.mono v15 t9.same up
      · refine .inl ⟨sr1.stop hid_le v15 (by omega), ?_⟩
        have : us.drop j = [] := List.drop_eq_nil_of_le (by omega)
        rw [this] at f5
        unfold lc2in at f5
        exact fin P5 (by rw [wipe_wipe hsub]; exact ws) v5 kk5 r5 f5
  · refine .inl ⟨sr.stop hid_le hv (by omega), ?_⟩
    have : ts.drop i = [] := List.drop_eq_nil_of_le (by omega)
    rw [this] at hf
    unfold lc2out at hf
    rw [← eF] at hf
    have ps := swap_post (vs := ns) (σ1 := σ) p.rep hcl' (fun i hi => by rw [wipe_out hi]) (by rw [wipe_length])
    refine hf (.ref D) H' (fun p => Z1 p ∨ p = D) (p.trans ps) (fun j f => ?_) ⟨D, rfl, hD0, .inr rfl, ho.mono ps.same fun _ e => e⟩
    by_cases q : j ∈ ns
    · rcases k1 j f with ⟨o, e⟩ | ⟨t, e⟩
      · cases hc j q _ e
      · cases hc j q _ e
    · exact hk j q f
/-- [.. x ..]: a turn's deed on a list -/
def leafL (E : M Vw) (o : Ob) : M Ob := E.bind fun r => (toT r).bind fun u e => match o with
  | .lst ts => if ts.length < sizeLine then .ok (.lst (ts ++ [u])) e else .no
  | _ => .no
/-- {.. k: v ..}: on a dict -/
def leafD (A E : M Vw) (o : Ob) : M Ob := A.bind fun rk => (toT rk).bind fun k => E.bind fun r => (toT r).bind fun u e => match o, toKey k with
  | .dct kvs, some kk => if kvs.length < sizeLine then .ok (.dct (putKT kvs kk u)) e else .no
  | _, _ => .no
theorem leafL_ok {g : Gk} {E : M Vw} : Leaf (kb g W) (leafL E) (fun D σ H N => tE g (WF W) E σ H fun y H7 => ∃ acc, H7 D = some (.lst acc) ∧ acc.length < sizeLine ∧ N (upd H7 D (.lst (acc ++ [y])))) := by
  intro Z env e' τ H D o o' N rE zD hr h hN
  refine ⟨Z, env, rE, ?_⟩
  unfold leafL M.bind R.bind at h
  cases q : E env with
  | no => rw [q] at h; cases h
  | er y e => rw [q] at h; cases h
  | ok r e1 =>
    rw [q] at h
    simp only [M.bind, R.bind] at h
    intro y H7 Z4 p4 k4 l4
    cases q2 : toT r e1 with
    | no => rw [q2] at h; cases h
    | er z e => exact (toT_er q2).elim
    | ok u e2 =>
      rw [q2] at h
      simp only at h
      obtain ⟨p5, k5, s5⟩ := toT_ok p4.rep l4 q2
      have t5 := (p4.trans p5).lessZ
      have hy : Rp g.K (hid Z e2 τ H7) y u := s5 _ p4.zs rE.zd
      cases o with
      | lst ts =>
        simp only at h
        split at h
        · rename_i hz
          injection h with h1 h2
          subst h1; subst h2
          obtain ⟨vs, h3, h4⟩ := hr
          refine ⟨vs, t5.fr D _ h3 fun so => rE.z_so zD so, by rw [h4.length]; exact hz, hN H7 _ t5 (k4.trans k5) ⟨_, upd_same, (h4.mono t5.same).append (.cons hy .nil)⟩⟩
        · cases h
      | _ => cases h
theorem leafD_ok {g : Gk} {A E : M Vw} : Leaf (kb g W) (leafD A E) (fun D σ H N => tE g (WF W) A σ H fun y H7 => tE g (WF W) E σ H7 fun z H8 => ∃ kvs k, y = kV k ∧ H8 D = some (.dK kvs) ∧ kvs.length < sizeLine ∧ N (upd H8 D (.dK (putK kvs k z)))) := by
  intro Z env e' τ H D o o' N rE zD hr h hN
  refine ⟨Z, env, rE, ?_⟩
  unfold leafD M.bind R.bind at h
  cases q : A env with
  | no => rw [q] at h; cases h
  | er y e => rw [q] at h; cases h
  | ok rk e1 =>
    rw [q] at h
    simp only [M.bind, R.bind] at h
    intro y H7 Z4 p4 k4 l4
    cases q2 : toT rk e1 with
    | no => rw [q2] at h; cases h
    | er z e => exact (toT_er q2).elim
    | ok kt e2 =>
      rw [q2] at h
      simp only at h
      obtain ⟨p5, k5, s5⟩ := toT_ok p4.rep l4 q2
      have t5 := (p4.trans p5).lessZ
      have hk : Rp g.K (hid Z e2 τ H7) y kt := s5 _ p4.zs rE.zd
      refine ⟨Z, e2, t5.rep, ?_⟩
      cases q3 : E e2 with
      | no => rw [q3] at h; cases h
      | er y e => rw [q3] at h; cases h
      | ok r e3 =>
        rw [q3] at h
        simp only at h
        intro z H8 Z8 p8 k8 l8
        cases q4 : toT r e3 with
        | no => rw [q4] at h; cases h
        | er z e => exact (toT_er q4).elim
        | ok u e4 =>
          rw [q4] at h
          simp only at h
          obtain ⟨p9, k9, s9⟩ := toT_ok p8.rep l8 q4
          have t9 := t5.trans (p8.trans p9).lessZ
          have hz : Rp g.K (hid Z e4 τ H8) z u := s9 _ p8.zs t5.rep.zd
          split at h
          · rename_i kvs kk ek
            split at h
            · rename_i hl
              injection h with h1 h2
              subst h1; subst h2
              obtain ⟨ws, h3, h4⟩ := hr
              refine ⟨ws, kk, toKey_rp (K := kb g W) (hk.one (fun _ _ e => e)) ek, t9.fr D _ h3 fun so => rE.z_so zD so, by rw [h4.length]; exact hl, hN H8 _ t9 (k4.trans (k5.trans (k8.trans k9))) ⟨_, upd_same, (h4.mono t9.same).put hz⟩⟩
            · cases h
          · cases h
section
variable {elt kx vx tg iter tg1 iter1 : Expr} {ifs ifs1 : List Expr} {scope : Scope} {own : List (PySem.Str × Nat)} {ns1 : List Nat} {pos : Pos} {S S1 : M (List T)} {b b1 : T → M Unit} {t t1 : TG} {C C1 : M Bool} {A E : M Vw}
/-- [elt for tg in iter if .. for tg1 in iter1 if ..] -/
theorem xlc2 (hc : X.calm = true) (hN : X.N.Nodup) (hi : XI X W tg iter S) (ok : BlkOk X.N X.env.scope scope own) (hv : ∀ i ∈ ns1, i ∈ own.map (·.2))
    (hg : ∀ (s : Shared) (H : Hp) (Cc : Addr) (cl : List (PySem.Str × Addr)) (fp : List Addr), XG (X.blk s H scope (compEnvC scope cl Cc X.env) fp) tg b t) (ht : ∀ (s : Shared) (H : Hp) (Cc : Addr) (cl : List (PySem.Str × Addr)) (fp : List Addr), PTs (X.blk s H scope (compEnvC scope cl Cc X.env) fp) ifs (tT X.g (WF W) C))
    (hi1 : ∀ (s : Shared) (H : Hp) (Cc : Addr) (cl : List (PySem.Str × Addr)) (fp : List Addr), XI (X.blk s H scope (compEnvC scope cl Cc X.env) fp) (WF W) tg1 iter1 S1)
    (hg1 : ∀ (s : Shared) (H : Hp) (Cc : Addr) (cl : List (PySem.Str × Addr)) (fp : List Addr), XG (X.blk s H scope (compEnvC scope cl Cc X.env) fp) tg1 b1 t1) (ht1 : ∀ (s : Shared) (H : Hp) (Cc : Addr) (cl : List (PySem.Str × Addr)) (fp : List Addr), PTs (X.blk s H scope (compEnvC scope cl Cc X.env) fp) ifs1 (tT X.g (WF W) C1))
    (he : ∀ (s : Shared) (H : Hp) (Cc : Addr) (cl : List (PySem.Str × Addr)) (fp : List Addr), XE (X.blk s H scope (compEnvC scope cl Cc X.env) fp) (WF W) elt E) (hw : Wp t (own.map (·.2))) (hm : ∀ x σ H Q Q', (∀ σ H, Q σ H → Q' σ H) → t x σ H Q → t x σ H Q')
    (hw1 : Wp t1 ns1) (hm1 : ∀ x σ H Q Q', (∀ σ H, Q σ H → Q' σ H) → t1 x σ H Q → t1 x σ H Q')
    (hs : ∀ x, foldedSetIterable iter X.env x = pure x := by intro _; rfl) (hs1 : ∀ env x, foldedSetIterable iter1 env x = pure x := by intro _ _; rfl) :
    XE X W (.ListComp elt [⟨tg, iter, ifs, 0⟩, ⟨tg1, iter1, ifs1, 0⟩] scope pos) (mLc2 S b C S1 b1 C1 (leafL E) (own.map (·.2)) ns1 (.lst [])) :=
  (pe_lc2 hc hN hi ok hv (fun s H Cc cl fp => (hg s H Cc cl fp).pg) ht (fun s H Cc cl fp => hi1 s H Cc cl fp) (fun s H Cc cl fp => (hg1 s H Cc cl fp).pg) ht1 (fun s H Cc cl fp => he s H Cc cl fp) hs hs1).weak fun σ H Q h =>
    rd_g2 (X' := X.blk X.s_0 X.H_0 scope (compEnvC scope [] 0 X.env) []) (u0 := .lst []) (o0 := .lst []) rfl rfl (hg X.s_0 X.H_0 0 [] []) hw hm (hg1 X.s_0 X.H_0 0 [] []) hw1 hm1 hv (fun G H D => ⟨[], upd_same, .nil⟩) leafL_ok h
/-- {k: v for tg in iter if .. for tg1 in iter1 if ..} -/
theorem xdc2 (hc : X.calm = true) (hN : X.N.Nodup) (hi : XI X W tg iter S) (ok : BlkOk X.N X.env.scope scope own) (hv : ∀ i ∈ ns1, i ∈ own.map (·.2))
    (hg : ∀ (s : Shared) (H : Hp) (Cc : Addr) (cl : List (PySem.Str × Addr)) (fp : List Addr), XG (X.blk s H scope (compEnvC scope cl Cc X.env) fp) tg b t) (ht : ∀ (s : Shared) (H : Hp) (Cc : Addr) (cl : List (PySem.Str × Addr)) (fp : List Addr), PTs (X.blk s H scope (compEnvC scope cl Cc X.env) fp) ifs (tT X.g (WF W) C))
    (hi1 : ∀ (s : Shared) (H : Hp) (Cc : Addr) (cl : List (PySem.Str × Addr)) (fp : List Addr), XI (X.blk s H scope (compEnvC scope cl Cc X.env) fp) (WF W) tg1 iter1 S1)
    (hg1 : ∀ (s : Shared) (H : Hp) (Cc : Addr) (cl : List (PySem.Str × Addr)) (fp : List Addr), XG (X.blk s H scope (compEnvC scope cl Cc X.env) fp) tg1 b1 t1) (ht1 : ∀ (s : Shared) (H : Hp) (Cc : Addr) (cl : List (PySem.Str × Addr)) (fp : List Addr), PTs (X.blk s H scope (compEnvC scope cl Cc X.env) fp) ifs1 (tT X.g (WF W) C1))
    (hk : ∀ (s : Shared) (H : Hp) (Cc : Addr) (cl : List (PySem.Str × Addr)) (fp : List Addr), XE (X.blk s H scope (compEnvC scope cl Cc X.env) fp) (WF W) kx A) (he : ∀ (s : Shared) (H : Hp) (Cc : Addr) (cl : List (PySem.Str × Addr)) (fp : List Addr), XE (X.blk s H scope (compEnvC scope cl Cc X.env) fp) (WF W) vx E)
    (hw : Wp t (own.map (·.2))) (hm : ∀ x σ H Q Q', (∀ σ H, Q σ H → Q' σ H) → t x σ H Q → t x σ H Q') (hw1 : Wp t1 ns1) (hm1 : ∀ x σ H Q Q', (∀ σ H, Q σ H → Q' σ H) → t1 x σ H Q → t1 x σ H Q')
    (hs : ∀ x, foldedSetIterable iter X.env x = pure x := by intro _; rfl) (hs1 : ∀ env x, foldedSetIterable iter1 env x = pure x := by intro _ _; rfl) :
    XE X W (.DictComp kx vx [⟨tg, iter, ifs, 0⟩, ⟨tg1, iter1, ifs1, 0⟩] scope pos) (mLc2 S b C S1 b1 C1 (leafD A E) (own.map (·.2)) ns1 (.dct [])) :=
  (pe_dc2 hc hN hi ok hv (fun s H Cc cl fp => (hg s H Cc cl fp).pg) ht (fun s H Cc cl fp => hi1 s H Cc cl fp) (fun s H Cc cl fp => (hg1 s H Cc cl fp).pg) ht1 (fun s H Cc cl fp => hk s H Cc cl fp) (fun s H Cc cl fp => he s H Cc cl fp) hs hs1).weak fun σ H Q h =>
    rd_g2 (X' := X.blk X.s_0 X.H_0 scope (compEnvC scope [] 0 X.env) []) (u0 := .dK []) (o0 := .dct []) rfl rfl (hg X.s_0 X.H_0 0 [] []) hw hm (hg1 X.s_0 X.H_0 0 [] []) hw1 hm1 hv (fun G H D => ⟨[], upd_same, .nil⟩) leafD_ok h
/-- stored at once in a local name -/
theorem xsetlc2 {i : Nat} {y : PySem.Str} {py spos : Pos} (hc : X.calm = true) (hN : X.N.Nodup) (hy : X.N[i]? = some y) (hyl : X.env.scope.names.lookup y = some .local)
    (hsw : swapsWith (.ListComp elt [⟨tg, iter, ifs, 0⟩, ⟨tg1, iter1, ifs1, 0⟩] scope pos) (some (.Name y py)) spos.line X.env = pure true) (hi : XI X W tg iter S) (ok : BlkOk X.N X.env.scope scope own) (hv : ∀ i ∈ ns1, i ∈ own.map (·.2))
    (hg : ∀ (s : Shared) (H : Hp) (Cc : Addr) (cl : List (PySem.Str × Addr)) (fp : List Addr), XG (X.blk s H scope (compEnvC scope cl Cc X.env) fp) tg b t) (ht : ∀ (s : Shared) (H : Hp) (Cc : Addr) (cl : List (PySem.Str × Addr)) (fp : List Addr), PTs (X.blk s H scope (compEnvC scope cl Cc X.env) fp) ifs (tT X.g (WF W) C))
    (hi1 : ∀ (s : Shared) (H : Hp) (Cc : Addr) (cl : List (PySem.Str × Addr)) (fp : List Addr), XI (X.blk s H scope (compEnvC scope cl Cc X.env) fp) (WF W) tg1 iter1 S1)
    (hg1 : ∀ (s : Shared) (H : Hp) (Cc : Addr) (cl : List (PySem.Str × Addr)) (fp : List Addr), XG (X.blk s H scope (compEnvC scope cl Cc X.env) fp) tg1 b1 t1) (ht1 : ∀ (s : Shared) (H : Hp) (Cc : Addr) (cl : List (PySem.Str × Addr)) (fp : List Addr), PTs (X.blk s H scope (compEnvC scope cl Cc X.env) fp) ifs1 (tT X.g (WF W) C1))
    (he : ∀ (s : Shared) (H : Hp) (Cc : Addr) (cl : List (PySem.Str × Addr)) (fp : List Addr), XE (X.blk s H scope (compEnvC scope cl Cc X.env) fp) (WF W) elt E) (hw : Wp t (own.map (·.2))) (hm : ∀ x σ H Q Q', (∀ σ H, Q σ H → Q' σ H) → t x σ H Q → t x σ H Q')
    (hw1 : Wp t1 ns1) (hm1 : ∀ x σ H Q Q', (∀ σ H, Q σ H → Q' σ H) → t1 x σ H Q → t1 x σ H Q')
    (hs : ∀ x, foldedSetIterable iter X.env x = pure x := by intro _; rfl) (hs1 : ∀ env x, foldedSetIterable iter1 env x = pure x := by intro _ _; rfl) :
    XS X W (.Assign [.Name y py] (.ListComp elt [⟨tg, iter, ifs, 0⟩, ⟨tg1, iter1, ifs1, 0⟩] scope pos) spos) (mSet i (mLc2 S b C S1 b1 C1 (leafL E) (own.map (·.2)) ns1 (.lst []))) :=
  (ps_setLc2 hc hN hy hyl hsw hi ok hv (fun s H Cc cl fp => (hg s H Cc cl fp).pg) ht (fun s H Cc cl fp => hi1 s H Cc cl fp) (fun s H Cc cl fp => (hg1 s H Cc cl fp).pg) ht1 (fun s H Cc cl fp => he s H Cc cl fp) hs hs1).weak fun D σ H h =>
    rd_g2 (X' := X.blk X.s_0 X.H_0 scope (compEnvC scope [] 0 X.env) []) (u0 := .lst []) (o0 := .lst []) rfl rfl (hg X.s_0 X.H_0 0 [] []) hw hm (hg1 X.s_0 X.H_0 0 [] []) hw1 hm1 hv (fun G H D => ⟨[], upd_same, .nil⟩) leafL_ok (rd_set (g := X.g) h)
theorem xsetdc2 {i : Nat} {y : PySem.Str} {py spos : Pos} (hc : X.calm = true) (hN : X.N.Nodup) (hy : X.N[i]? = some y) (hyl : X.env.scope.names.lookup y = some .local)
    (hsw : swapsWith (.DictComp kx vx [⟨tg, iter, ifs, 0⟩, ⟨tg1, iter1, ifs1, 0⟩] scope pos) (some (.Name y py)) spos.line X.env = pure true) (hi : XI X W tg iter S) (ok : BlkOk X.N X.env.scope scope own) (hv : ∀ i ∈ ns1, i ∈ own.map (·.2))
    (hg : ∀ (s : Shared) (H : Hp) (Cc : Addr) (cl : List (PySem.Str × Addr)) (fp : List Addr), XG (X.blk s H scope (compEnvC scope cl Cc X.env) fp) tg b t) (ht : ∀ (s : Shared) (H : Hp) (Cc : Addr) (cl : List (PySem.Str × Addr)) (fp : List Addr), PTs (X.blk s H scope (compEnvC scope cl Cc X.env) fp) ifs (tT X.g (WF W) C))
    (hi1 : ∀ (s : Shared) (H : Hp) (Cc : Addr) (cl : List (PySem.Str × Addr)) (fp : List Addr), XI (X.blk s H scope (compEnvC scope cl Cc X.env) fp) (WF W) tg1 iter1 S1)
    (hg1 : ∀ (s : Shared) (H : Hp) (Cc : Addr) (cl : List (PySem.Str × Addr)) (fp : List Addr), XG (X.blk s H scope (compEnvC scope cl Cc X.env) fp) tg1 b1 t1) (ht1 : ∀ (s : Shared) (H : Hp) (Cc : Addr) (cl : List (PySem.Str × Addr)) (fp : List Addr), PTs (X.blk s H scope (compEnvC scope cl Cc X.env) fp) ifs1 (tT X.g (WF W) C1))
    (hk : ∀ (s : Shared) (H : Hp) (Cc : Addr) (cl : List (PySem.Str × Addr)) (fp : List Addr), XE (X.blk s H scope (compEnvC scope cl Cc X.env) fp) (WF W) kx A) (he : ∀ (s : Shared) (H : Hp) (Cc : Addr) (cl : List (PySem.Str × Addr)) (fp : List Addr), XE (X.blk s H scope (compEnvC scope cl Cc X.env) fp) (WF W) vx E)
    (hw : Wp t (own.map (·.2))) (hm : ∀ x σ H Q Q', (∀ σ H, Q σ H → Q' σ H) → t x σ H Q → t x σ H Q') (hw1 : Wp t1 ns1) (hm1 : ∀ x σ H Q Q', (∀ σ H, Q σ H → Q' σ H) → t1 x σ H Q → t1 x σ H Q')
    (hs : ∀ x, foldedSetIterable iter X.env x = pure x := by intro _; rfl) (hs1 : ∀ env x, foldedSetIterable iter1 env x = pure x := by intro _ _; rfl) :
    XS X W (.Assign [.Name y py] (.DictComp kx vx [⟨tg, iter, ifs, 0⟩, ⟨tg1, iter1, ifs1, 0⟩] scope pos) spos) (mSet i (mLc2 S b C S1 b1 C1 (leafD A E) (own.map (·.2)) ns1 (.dct []))) :=
  (ps_setDc2 hc hN hy hyl hsw hi ok hv (fun s H Cc cl fp => (hg s H Cc cl fp).pg) ht (fun s H Cc cl fp => hi1 s H Cc cl fp) (fun s H Cc cl fp => (hg1 s H Cc cl fp).pg) ht1 (fun s H Cc cl fp => hk s H Cc cl fp) (fun s H Cc cl fp => he s H Cc cl fp) hs hs1).weak fun D σ H h =>
    rd_g2 (X' := X.blk X.s_0 X.H_0 scope (compEnvC scope [] 0 X.env) []) (u0 := .dK []) (o0 := .dct []) rfl rfl (hg X.s_0 X.H_0 0 [] []) hw hm (hg1 X.s_0 X.H_0 0 [] []) hw1 hm1 hv (fun G H D => ⟨[], upd_same, .nil⟩) leafD_ok (rd_set (g := X.g) h)
end
end
end Ev
end P_Ev18

noncomputable section P_Ev19
set_option Elab.async false
set_option linter.all false
set_option maxRecDepth 100000
/-! Ev19: dict(zip(tuple, tuple)), d.pop(k, x), xs[::-1], sorted(d). -/
namespace Ev
open PySem L2 PySem.Spec RZ
open PyProof.Rows hiding St
open PySem.Sem (wp)
set_option autoImplicit false
/-- a zip object, whose last pair is still there -/
abbrev IsZipO (h : Heap) (z TI TO T : Addr) (f : Bool) : Prop := h.get? z = some { cls := .type "zip", dict := none, data := .fields #[rawInt T, .bool f, .bool false, .ref TI, .ref TO], slots := #[] }
section
variable {prog : Program} {w : World} {A : Around} {E : Value → Shared → Prop} {s : Shared}
theorem zipT_more {z TI TO T i1 i2 l1 l2 : Addr} {f : Bool} {k1 k2 : Nat} {xs ys : Array Value} {x y : Value} {oT : Obj} {Q : Value → Shared → Prop} (D : ZipApart z TI TO i1 i2 l1 l2)
    (hz : IsZipO s.heap z TI TO T f) (hT : s.heap.get? T = some oT) (hTI : IsPair s.heap TI (.ref i1) (.ref i2))
    (h1 : s.heap.IsTupleIter i1 l1 k1) (h2 : s.heap.IsTupleIter i2 l2 k2) (hl1 : s.heap.IsTuple l1 xs) (hl2 : s.heap.IsTuple l2 ys) (hx : xs[k1]? = some x) (hy : ys[k2]? = some y)
    (hQ : ∀ h', IsZipO h' z TI TO T true → h'.IsTupleIter i1 l1 (k1 + 1) → h'.IsTupleIter i2 l2 (k2 + 1) → IsPair h' s.heap.objs.size x y → h'.objs.size = s.heap.objs.size + 1 →
      (∀ c o, c ≠ z → c ≠ i1 → c ≠ i2 → s.heap.get? c = some o → h'.get? c = some o) → Q (.ref s.heap.objs.size) { s with heap := h' }) :
    wpAny (model prog w) A (Builtin.«zip.__next__» ⟨[.ref z], []⟩) (fun fin s' => ∃ v, fin = .done (.ret v) ∧ Q v s') E s := by
  show wpAny _ _ (field (.ref z) 2 >>= _) _ _ _
  refine wpAny_bind (wpAny_field hz rfl (x := .bool false) rfl ?_)
  show wpAny _ _ (field (.ref z) 3 >>= _) _ _ _
  refine wpAny_bind (wpAny_field hz rfl (x := .ref TI) rfl ?_)
  refine wpAny_bind (wpAny_seqItems hTI rfl ?_)
  show wpAny _ _ (Builtin.SmallTypes.ownedTupleIsFree (.ref z) >>= _) _ _ _
  refine wpAny_bind ?_
  unfold Builtin.SmallTypes.ownedTupleIsFree
  refine wpAny_bind (wpAny_field hz rfl (x := rawInt T) rfl ?_)
  show wpAny _ _ (loadIfAlive (Int.toNat T) >>= _) _ _ _
  refine wpAny_bind (PySem.W.kdx_alive (o := oT) (by simpa using hT) ?_)
  show wpAny _ _ (field (.ref z) 1 >>= _) _ _ _
  refine wpAny_bind (wpAny_field hz rfl (x := .bool f) rfl ?_)
  cases f with
  | true =>
    refine wpAny_pure ?_
    have hz₀ := hz
    have hsz : s.heap.objs.size = s.heap.objs.size := rfl
    have hk : ∀ c o, c ≠ z → s.heap.get? c = some o → s.heap.get? c = some o := fun _ _ _ e => e
    show wpAny _ _ (forIn #[Value.ref i1, Value.ref i2] _ _ >>= _) _ _ _
    refine wpAny_bind ?_
    simp only [← Array.forIn_toList, List.forIn_cons, List.forIn_nil]
    refine wpAny_bind (wpAny_bind (wpAny_holding ?_))
    refine wpAny_bind (nextOf_tuple_item (s := s) (h1.at fun o e => hk _ o D.i1z e) (hl1.at fun o e => hk _ o D.l1z e) hx fun h₂ h1₂ hs₂ => wpAny_pure (wpAny_pure ?_))
    refine wpAny_bind (wpAny_bind (wpAny_holding ?_))
    refine wpAny_bind (nextOf_tuple_item (s := { s with heap := h₂ }) ((h2.at fun o e => hk _ o D.i2z e).extBut hs₂.extBut D.i12.symm) ((hl2.at fun o e => hk _ o D.l2z e).extBut hs₂.extBut D.l2i1) hy fun h₃ h2₃ hs₃ => wpAny_pure (wpAny_pure (wpAny_pure ?_)))
    refine wpAny_bind (wpAny_newTuple (hsz := by show 2 ≤ sizeLine; decide) (wpAny_pure ⟨_, rfl, ?_⟩))
    have sz3 : h₃.objs.size = s.heap.objs.size := by have a := hs₃.1; have b := hs₂.1; exact a.trans (b.trans hsz)
    show Q (.ref h₃.objs.size) _
    rw [sz3]
    have up : ∀ c o, h₃.get? c = some o → (h₃.push { cls := .type "tuple", data := .seq #[x, y] }).get? c = some o := fun c o e => Heap.get?_push_of_some _ e
    refine hQ _ (up _ _ (hs₃.extBut _ _ D.i2z.symm (hs₂.extBut _ _ D.i1z.symm hz₀))) ((h1₂.extBut hs₃.extBut D.i12).at fun o e => up _ _ e) (h2₃.at fun o e => up _ _ e) ?_ (by rw [Heap.size_push, sz3]) fun c o c1 c2 c3 e => up _ _ (hs₃.extBut _ _ c3 (hs₂.extBut _ _ c2 (hk _ _ c1 e)))
    rw [← sz3]
    exact Heap.get?_push_size _ rfl
  | false =>
    refine wpAny_bind (wpAny_setField_rec hz (by simp) fun h₀ hz₀ hs₀ => wpAny_pure ?_)
    replace hz₀ : IsZipO h₀ z TI TO T true := hz₀
    have hsz : h₀.objs.size = s.heap.objs.size := hs₀.1
    have hk : ∀ c o, c ≠ z → s.heap.get? c = some o → h₀.get? c = some o := fun c o c1 e => hs₀.extBut _ _ c1 e
    show wpAny _ _ (forIn #[Value.ref i1, Value.ref i2] _ _ >>= _) _ _ _
    refine wpAny_bind ?_
    simp only [← Array.forIn_toList, List.forIn_cons, List.forIn_nil]
    refine wpAny_bind (wpAny_bind (wpAny_holding ?_))
    refine wpAny_bind (nextOf_tuple_item (s := { s with heap := h₀ }) (h1.at fun o e => hk _ o D.i1z e) (hl1.at fun o e => hk _ o D.l1z e) hx fun h₂ h1₂ hs₂ => wpAny_pure (wpAny_pure ?_))
    refine wpAny_bind (wpAny_bind (wpAny_holding ?_))
    refine wpAny_bind (nextOf_tuple_item (s := { s with heap := h₂ }) ((h2.at fun o e => hk _ o D.i2z e).extBut hs₂.extBut D.i12.symm) ((hl2.at fun o e => hk _ o D.l2z e).extBut hs₂.extBut D.l2i1) hy fun h₃ h2₃ hs₃ => wpAny_pure (wpAny_pure (wpAny_pure ?_)))
    refine wpAny_bind (wpAny_newTuple (hsz := by show 2 ≤ sizeLine; decide) (wpAny_pure ⟨_, rfl, ?_⟩))
    have sz3 : h₃.objs.size = s.heap.objs.size := by have a := hs₃.1; have b := hs₂.1; exact a.trans (b.trans hsz)
    show Q (.ref h₃.objs.size) _
    rw [sz3]
    have up : ∀ c o, h₃.get? c = some o → (h₃.push { cls := .type "tuple", data := .seq #[x, y] }).get? c = some o := fun c o e => Heap.get?_push_of_some _ e
    refine hQ _ (up _ _ (hs₃.extBut _ _ D.i2z.symm (hs₂.extBut _ _ D.i1z.symm hz₀))) ((h1₂.extBut hs₃.extBut D.i12).at fun o e => up _ _ e) (h2₃.at fun o e => up _ _ e) ?_ (by rw [Heap.size_push, sz3]) fun c o c1 c2 c3 e => up _ _ (hs₃.extBut _ _ c3 (hs₂.extBut _ _ c2 (hk _ _ c1 e)))
    rw [← sz3]
    exact Heap.get?_push_size _ rfl
theorem zipT_over {z TI TO T i1 i2 l1 l2 : Addr} {f : Bool} {k1 k2 : Nat} {xs ys : Array Value} {oT : Obj} {Q : Fin → Shared → Prop} (hh : A.handled = none) (D : ZipApart z TI TO i1 i2 l1 l2)
    (hz : IsZipO s.heap z TI TO T f) (hT : s.heap.get? T = some oT) (hTI : IsPair s.heap TI (.ref i1) (.ref i2))
    (h1 : s.heap.IsTupleIter i1 l1 k1) (h2 : s.heap.IsTupleIter i2 l2 k2) (hl1 : s.heap.IsTuple l1 xs) (hl2 : s.heap.IsTuple l2 ys) (hend : xs[k1]? = none ∨ ys[k2]? = none)
    (hE : ∀ h' e, (∀ c o, c ≠ z → c ≠ i1 → c ≠ i2 → s.heap.get? c = some o → h'.get? c = some o) → (∃ o, h'.get? e = some o ∧ o.cls = .type "StopIteration") → E (.ref e) { s with heap := h' }) :
    wpAny (model prog w) A (Builtin.«zip.__next__» ⟨[.ref z], []⟩) Q E s := by
  show wpAny _ _ (field (.ref z) 2 >>= _) _ _ _
  refine wpAny_bind (wpAny_field hz rfl (x := .bool false) rfl ?_)
  show wpAny _ _ (field (.ref z) 3 >>= _) _ _ _
  refine wpAny_bind (wpAny_field hz rfl (x := .ref TI) rfl ?_)
  refine wpAny_bind (wpAny_seqItems hTI rfl ?_)
  show wpAny _ _ (Builtin.SmallTypes.ownedTupleIsFree (.ref z) >>= _) _ _ _
  refine wpAny_bind (wpAny_tupleHeld_zip hz hT fun g₁ e₁ b₁ => ?_)
  simp only [Bool.false_eq_true, if_false]
  refine wpAny_bind ?_
  simp only [← Array.forIn_toList, List.forIn_cons, List.forIn_nil]
  refine wpAny_bind (wpAny_bind (wpAny_holding ?_))
  show wpAny _ _ (Builtin.SmallTypes.nextOf (.ref i1) >>= _) _ _ _
  cases hx : xs[k1]? with
  | none => exact wpAny_bind (nextOf_tuple_end (s := { s with heap := g₁ }) hh (h1.extBut b₁.extBut D.i1z) (hl1.extBut b₁.extBut D.l1z) hx fun g₂ e b₂ he => hE g₂ e (fun c o c1 c2 _ x => b₂ _ _ c2 (b₁.extBut _ _ c1 x)) he)
  | some x =>
    have hy : ys[k2]? = none := hend.elim (fun h => by rw [hx] at h; cases h) id
    refine wpAny_bind (nextOf_tuple_item (s := { s with heap := g₁ }) (h1.extBut b₁.extBut D.i1z) (hl1.extBut b₁.extBut D.l1z) hx fun g₂ e₂ b₂ => wpAny_pure (wpAny_pure ?_))
    refine wpAny_bind (wpAny_bind (wpAny_holding ?_))
    show wpAny _ _ (Builtin.SmallTypes.nextOf (.ref i2) >>= _) _ _ _
    exact wpAny_bind (nextOf_tuple_end (s := { s with heap := g₂ }) hh ((h2.extBut b₁.extBut D.i2z).extBut b₂.extBut D.i12.symm) ((hl2.extBut b₁.extBut D.l2z).extBut b₂.extBut D.l2i1) hy fun g₃ e b₃ he =>
      hE g₃ e (fun c o c1 c2 c3 x => b₃ _ _ c3 (b₂.extBut _ _ c2 (b₁.extBut _ _ c1 x))) he)
theorem pyNext_more {z TI TO T i1 i2 l1 l2 : Addr} {f : Bool} {k1 k2 : Nat} {xs ys : Array Value} {x y : Value} {oT : Obj} {Q : Option Value → Shared → Prop} (D : ZipApart z TI TO i1 i2 l1 l2)
    (hz : IsZipO s.heap z TI TO T f) (hT : s.heap.get? T = some oT) (hTI : IsPair s.heap TI (.ref i1) (.ref i2))
    (h1 : s.heap.IsTupleIter i1 l1 k1) (h2 : s.heap.IsTupleIter i2 l2 k2) (hl1 : s.heap.IsTuple l1 xs) (hl2 : s.heap.IsTuple l2 ys) (hx : xs[k1]? = some x) (hy : ys[k2]? = some y)
    (hQ : ∀ h', IsZipO h' z TI TO T true → h'.IsTupleIter i1 l1 (k1 + 1) → h'.IsTupleIter i2 l2 (k2 + 1) → IsPair h' s.heap.objs.size x y → h'.objs.size = s.heap.objs.size + 1 →
      (∀ c o, c ≠ z → c ≠ i1 → c ≠ i2 → s.heap.get? c = some o → h'.get? c = some o) → Q (some (.ref s.heap.objs.size)) { s with heap := h' }) :
    wpAny (model prog w) A (pyNext (.ref z)) Q E s := by
  have ty : s.TypeIs (.ref z) "zip" := ⟨_, hz, rfl⟩
  unfold pyNext
  exact wpAny_bind (wpAny_attempt (wpAny_callSpecial?_slot (name := Str.ofString "__next__") ty F.slot_zip_next (wpAny_call_entry F.slot_zip_next ty F.entry_zip_next
      (zipT_more D hz hT hTI h1 h2 hl1 hl2 hx hy fun h' a1 a2 a3 a4 a5 a6 => wpAny_pure (hQ h' a1 a2 a3 a4 a5 a6)) (F.args_zip_next_1 _))))
theorem pyNext_over {z TI TO T i1 i2 l1 l2 : Addr} {f : Bool} {k1 k2 : Nat} {xs ys : Array Value} {oT : Obj} {Q : Option Value → Shared → Prop} (hh : A.handled = none) (D : ZipApart z TI TO i1 i2 l1 l2)
    (hz : IsZipO s.heap z TI TO T f) (hT : s.heap.get? T = some oT) (hTI : IsPair s.heap TI (.ref i1) (.ref i2))
    (h1 : s.heap.IsTupleIter i1 l1 k1) (h2 : s.heap.IsTupleIter i2 l2 k2) (hl1 : s.heap.IsTuple l1 xs) (hl2 : s.heap.IsTuple l2 ys) (hend : xs[k1]? = none ∨ ys[k2]? = none)
    (hQ : ∀ h', (∀ c o, c ≠ z → c ≠ i1 → c ≠ i2 → s.heap.get? c = some o → h'.get? c = some o) → Q none { s with heap := h' }) : wpAny (model prog w) A (pyNext (.ref z)) Q E s := by
  have ty : s.TypeIs (.ref z) "zip" := ⟨_, hz, rfl⟩
  unfold pyNext
  refine wpAny_bind (wpAny_attempt (wpAny_callSpecial?_slot (name := Str.ofString "__next__") ty F.slot_zip_next (wpAny_call_entry F.slot_zip_next ty F.entry_zip_next
    (zipT_over hh D hz hT hTI h1 h2 hl1 hl2 hend fun h' e hk ⟨o, ho, hc⟩ => ?_) (F.args_zip_next_1 _))))
  exact wpAny_bind (wpAny_isInstance (T := "StopIteration") (b := true) ⟨o, ho, hc⟩ isSubtype_stop (wpAny_pure (hQ _ hk)))
/-- zip of two tuples as the argument of dict() -/
theorem argZipT (z TI TO i1 i2 l1 l2 : Addr) (D : ZipApart z TI TO i1 i2 l1 l2) (xs ys : Array Value) :
    PairArg prog w "zip" z [z, TI, TO, i1, i2, l1, l2] [z, TO, i1, i2] (min xs.size ys.size) (fun i k v => xs[i]? = some k ∧ ys[i]? = some v)
      (fun h => IsZip h z TI TO .none ∧ IsPair h TI (.ref i1) (.ref i2) ∧ (∃ a b, IsPair h TO a b) ∧ h.IsTupleIter i1 l1 0 ∧ h.IsTupleIter i2 l2 0 ∧ h.IsTuple l1 xs ∧ h.IsTuple l2 ys) where
  type := fun s k => ⟨_, k.1, rfl⟩
  notDict := by decide
  keep := fun h h' ⟨k1, k2, ⟨a, b, k3⟩, k4, k5, k6, k7⟩ hk => ⟨hk _ _ k1, hk _ _ k2, ⟨a, b, hk _ _ k3⟩, k4.at fun o e => hk _ o e, k5.at fun o e => hk _ o e, k6.at fun o e => hk _ o e, k7.at fun o e => hk _ o e⟩
  there := fun h ⟨k1, k2, ⟨a, c, k3⟩, ⟨o1, k4, _⟩, ⟨o2, k5, _⟩, ⟨o3, k6, _⟩, ⟨o4, k7, _⟩⟩ b hb => by
    simp only [List.mem_cons, List.not_mem_nil, or_false] at hb
    rcases hb with rfl | rfl | rfl | rfl | rfl | rfl | rfl
    all_goals first | exact ⟨_, k1⟩ | exact ⟨_, k2⟩ | exact ⟨_, k3⟩ | exact ⟨_, k4⟩ | exact ⟨_, k5⟩ | exact ⟨_, k6⟩ | exact ⟨_, k7⟩
  sub := fun b hb => by
    simp only [List.mem_cons, List.not_mem_nil, or_false] at hb ⊢
    rcases hb with rfl | rfl | rfl | rfl <;> simp
  noKeys := fun A s Q E hA k h => getAttrOr_miss_zip k.1 rfl rfl rfl zip_no_keys (by decide +kernel) hA h
  iter := fun A s d Q E hA ⟨k1, k2, ⟨a, b, k3⟩, k4, k5, k6, k7⟩ hd hdf h => by
    simp only [List.mem_cons, List.not_mem_nil, or_false, not_or] at hdf
    obtain ⟨dz, dI, dO, d1, d2, e1, e2⟩ := hdf
    refine wpAny_pyIter_zip k1 (h z [z, TO, i1, i2] (fun i h => IsPair h TI (.ref i1) (.ref i2) ∧ h.IsTupleIter i1 l1 i ∧ h.IsTupleIter i2 l2 i ∧ h.IsTuple l1 xs ∧ h.IsTuple l2 ys ∧
      ((IsZip h z TI TO .none ∧ ∃ a b, IsPair h TO a b) ∨ ∃ T f oT, IsZipO h z TI TO T f ∧ h.get? T = some oT ∧ T ≠ z ∧ T ≠ i1 ∧ T ≠ i2 ∧ T ≠ d)) s.heap s.toks ?_
      ⟨k2, k4, k5, k6, k7, .inl ⟨k1, a, b, k3⟩⟩ (fun _ _ e => e) fun b hb => .inl hb)
    refine ⟨fun hm => ?_, fun i g₁ g₂ st hk => ?_, fun i s₁ Q₁ E₁ hi st hds hQ => ?_, fun s₁ Q₁ E₁ st hQ => ?_⟩
    · simp only [List.mem_cons, List.not_mem_nil, or_false] at hm
      rcases hm with e | e | e | e
      · exact dz e
      · exact dO e
      · exact d1 e
      · exact d2 e
    · obtain ⟨q1, q2, q3, q4, q5, q6⟩ := st
      refine ⟨hk _ _ (Ne.symm dI) q1, q2.at fun o e => hk _ o (Ne.symm d1) e, q3.at fun o e => hk _ o (Ne.symm d2) e, q4.at fun o e => hk _ o (Ne.symm e1) e, q5.at fun o e => hk _ o (Ne.symm e2) e, ?_⟩
      rcases q6 with ⟨w1, a, b, w2⟩ | ⟨T, f, oT, w1, w2, r1, r2, r3, r4⟩
      · exact .inl ⟨hk _ _ (Ne.symm dz) w1, a, b, hk _ _ (Ne.symm dO) w2⟩
      · exact .inr ⟨T, f, oT, hk _ _ (Ne.symm dz) w1, hk _ _ r4 w2, r1, r2, r3, r4⟩
    · obtain ⟨q1, q2, q3, q4, q5, q6⟩ := st
      have ex := Array.getElem?_eq_getElem (xs := xs) (Nat.lt_of_lt_of_le hi (Nat.min_le_left _ _))
      have ey := Array.getElem?_eq_getElem (xs := ys) (Nat.lt_of_lt_of_le hi (Nat.min_le_right _ _))
      have lt : ∀ {c o}, s₁.heap.get? c = some o → s₁.heap.objs.size ≠ c := fun e => Nat.ne_of_gt (Heap.lt_size e)
      have n1 : s₁.heap.objs.size ≠ i1 := let ⟨_, e, _⟩ := q2; lt e
      have n2 : s₁.heap.objs.size ≠ i2 := let ⟨_, e, _⟩ := q3; lt e
      rcases q6 with ⟨w1, a, b, w2⟩ | ⟨T, f, oT, w1, w2, r1, r2, r3, r4⟩
      · exact pyNext_zipT_item D w1 q1 w2 q2 q3 q4 q5 ex ey fun g a1 a2 a3 a4 a5 a6 hk => hQ s₁.heap.objs.size _ _ g s₁.toks ⟨ex, ey⟩ (.inl ⟨_, a5, rfl, _, rfl⟩)
            ⟨hk _ _ D.TIz D.TITO D.TIi1 D.TIi2 q1, a3, a4, q4.at fun o e => hk _ o D.l1z D.l1TO D.l1i1 D.l1i2 e, q5.at fun o e => hk _ o D.l2z D.l2TO D.l2i1 D.l2i2 e, .inr ⟨s₁.heap.objs.size, false, _, a1, a5, lt w1, n1, n2, Nat.ne_of_gt hds⟩⟩
            fun c o hc e => hk c o (fun x => hc (by simp [x])) (fun x => hc (by simp [x])) (fun x => hc (by simp [x])) (fun x => hc (by simp [x])) e
      · exact pyNext_more D w1 w2 q1 q2 q3 q4 q5 ex ey fun g a1 a3 a4 a5 a6 hk => hQ s₁.heap.objs.size _ _ g s₁.toks ⟨ex, ey⟩ (.inl ⟨_, a5, rfl, _, rfl⟩)
            ⟨hk _ _ D.TIz D.TIi1 D.TIi2 q1, a3, a4, q4.at fun o e => hk _ o D.l1z D.l1i1 D.l1i2 e, q5.at fun o e => hk _ o D.l2z D.l2i1 D.l2i2 e, .inr ⟨T, true, oT, a1, hk _ _ r1 r2 r3 w2, r1, r2, r3, r4⟩⟩
            fun c o hc e => hk c o (fun x => hc (by simp [x])) (fun x => hc (by simp [x])) (fun x => hc (by simp [x])) e
    · obtain ⟨q1, q2, q3, q4, q5, q6⟩ := st
      have over : xs[min xs.size ys.size]? = none ∨ ys[min xs.size ys.size]? = none := by
        rcases Nat.le_total xs.size ys.size with h | h
        · exact .inl (by rw [Nat.min_eq_left h]; exact Array.getElem?_eq_none (Nat.le_refl _))
        · exact .inr (by rw [Nat.min_eq_right h]; exact Array.getElem?_eq_none (Nat.le_refl _))
      rcases q6 with ⟨w1, a, b, w2⟩ | ⟨T, f, oT, w1, w2, r1, r2, r3, r4⟩
      · exact pyNext_zipT_end hA D w1 q1 w2 q2 q3 q4 q5 over fun g hk => hQ g s₁.toks fun c o hc e => hk c o (fun x => hc (by simp [x])) (fun x => hc (by simp [x])) (fun x => hc (by simp [x])) (fun x => hc (by simp [x])) e
      · exact pyNext_over hA D w1 w2 q1 q2 q3 q4 q5 over fun g hk => hQ g s₁.toks fun c o hc e => hk c o (fun x => hc (by simp [x])) (fun x => hc (by simp [x])) (fun x => hc (by simp [x])) e
end
/-! ### dict(zip(a, b)) -/
section
variable {X : Cx}
def tDZip (K : PySem.W.Frag) (ta : TA) : TE := fun σ H Q => ta σ H fun vs H1 => ∃ (a b : Addr) (kvs : List (Key × V)), vs = [.ref a, .ref b] ∧ SqT K H1 a (kvs.map fun kv => kV kv.1) ∧ SqT K H1 b (kvs.map Prod.snd) ∧ ∀ p, H1 p = none → Q (.ref p) (upd H1 p (.dK (mergeK [] kvs)))
theorem kv_of {P : Program} {w : World} : ∀ {kvs : List (Key × V)} {us rs : List Value}, Vals (kvs.map fun kv => kV kv.1) us → Vals (kvs.map Prod.snd) rs →
    ∃ prs : List (Key × Value), KV kvs prs ∧ prs.length = us.length ∧ us.length = rs.length ∧ ∀ (i : Nat) (key v : Value), us[i]? = some key → rs[i]? = some v → ∃ k, prs[i]? = some (k, v) ∧ (mixKind P w).is k key = true
  | [], us, rs, h, g => by
    cases h; cases g
    exact ⟨[], .nil, rfl, rfl, fun i key v e => by simp at e⟩
  | kv :: kvs, us, rs, h, g => by
    rw [List.map_cons] at h g
    cases h with
    | cons h1 h2 =>
      rename_i u us
      cases g with
      | cons g1 g2 =>
        rename_i r rs
        obtain ⟨prs, p1, p2, p3, p4⟩ := kv_of (P := P) (w := w) h2 g2
        refine ⟨(kv.1, r) :: prs, .cons ⟨rfl, g1⟩ p1, by simp [p2], by simp [p3], fun i key v e1 e2 => ?_⟩
        cases i with
        | zero =>
          simp at e1 e2
          subst e1; subst e2
          exact ⟨kv.1, rfl, kV_is h1⟩
        | succ i => simpa using p4 i key v (by simpa using e1) (by simpa using e2)
theorem pe_dzip {a b : Expr} {ta : TA} {p p2 pos pos2 : Pos} (hc : X.calm = true) (hg : Gl X "dict") (hm : X.mg "dict" = none) (hg2 : Gl X "zip") (hm2 : X.mg "zip" = none) (ha : PA X [a, b] ta)
    (hs : starEach [a, b] X.env = (false, eval a X.env) :: starEach [b] X.env := by rfl) (hpl : (backTo pos2 (starEach [b] X.env)).any (·.1) = false := by rfl)
    (hs2 : starEach [.Call (.Name "zip" p2) [a, b] [] pos2] X.env = (false, eval (.Call (.Name "zip" p2) [a, b] [] pos2) X.env) :: starEach [] X.env := by rfl) :
    PE X (.Call (.Name "dict" p) [.Call (.Name "zip" p2) [a, b] [] pos2] [] pos) (tDZip X.K ta) := by
  refine ⟨fun pins s σ H Q I h => ?_⟩
  refine Call_ (ld_blt I hg hm PyProof.Rows.boot_dict (PyProof.Rows.callWith_type1 (args_cons (Call_ (ld_blt I hg2 hm2 PyProof.Rows.boot_zip (PyProof.Rows.callWith_type1 (thn (ha.run pos2 pins s σ H _ I h) fun us s1 ⟨vs, H1, I1, r1, q1⟩ => ?_) hs hpl))) hs2) hs2 rfl))
  obtain ⟨l1, l2, kvs, rfl, hx, hy, q⟩ := q1
  obtain ⟨u1, u2, rfl, w1, w2⟩ := vals2 r1
  cases w1
  cases w2
  obtain ⟨its, rv, p1, n1⟩ := I1.tuple hx
  obtain ⟨its2, rv2, p2', n2⟩ := I1.tuple hy
  obtain ⟨o1, ho1, _⟩ := id p1
  obtain ⟨o2, ho2, _⟩ := id p2'
  obtain ⟨prs, kv, hl, hl2, hp⟩ := kv_of (P := X.prog) (w := X.w) rv rv2
  have lt1 := Heap.lt_size ho1
  have lt2 := Heap.lt_size ho2
  refine call_zipT (show s1.heap.IsTuple l1 its.toArray from p1) (show s1.heap.IsTuple l2 its2.toArray from p2') fun g hz hTI hTO h1 h2 hsz hk => args_nil ?_
  have I2 : Inv X pins σ H1 { s1 with heap := g } := I1.kept (t' := s1.toks) hk
  have nn : ∀ c, s1.heap.objs.size ≤ c → FpOk X pins H1 c := fun c hle => I1.fpOk hle (I1.hok.fresh hle)
  have nlen : prs.length ≤ sizeLine := by
    rw [hl, ← rv.length, List.length_map]
    rw [List.length_map] at n1
    exact n1
  have t1 : s1.heap.IsTuple l1 its.toArray := p1
  have t2 : s1.heap.IsTuple l2 its2.toArray := p2'
  refine PySem.call_dict_pairs (s := { s1 with heap := g }) (kvs := prs) (knd := mixKind X.prog X.w) (argZipT _ _ _ _ _ l1 l2 (PySem.W.ktu_apart s1.heap.objs.size l1 l2 lt1 lt2) its.toArray its2.toArray) (I2.ok.hd hc)
    ⟨hz, hTI, ⟨_, _, hTO⟩, h1, h2, t1.at fun o e => hk _ o e, t2.at fun o e => hk _ o e⟩ ⟨?_, fun i key v hv => ?_⟩ ?_ fun g' tk hd hk' => ?_
  · simp [hl, hl2]
  · obtain ⟨e1, e2⟩ := hv
    exact hp i key v (by simpa using e1) (by simpa using e2)
  · rw [show min its.toArray.size its2.toArray.size = prs.length by simp [hl, hl2]]
    exact nlen
  · have lo : (g.objs.size == sysModules) = false := beq_eq_false_iff_ne.mpr (Nat.ne_of_gt I2.big)
    have hlen : (mergeK [] kvs).length ≤ sizeLine := by
      refine Nat.le_trans (length_mergeK kvs []) ?_
      rw [List.length_nil, Nat.zero_add]
      rw [List.length_map] at n1
      exact n1
    refine ⟨.ref g.objs.size, upd H1 g.objs.size (.dK (mergeK [] kvs)), I2.turnedNew (t' := tk) (ch := [s1.heap.objs.size + 4, s1.heap.objs.size + 3, s1.heap.objs.size, s1.heap.objs.size + 1]) (fun b o hb e => hk' b o hb e) (fun c hc' => nn c ?_) (Nat.le_refl _)
      (show ObjOk X.prog X.w _ _ _ (.dK (mergeK [] kvs)) from ⟨hlen, lo, merged [] prs, KV.merge kv .nil, hd⟩), rfl, q _ (I2.hok.fresh (Nat.le_refl _))⟩
    simp only [List.mem_cons, List.not_mem_nil, or_false] at hc'
    rcases hc' with e | e | e | e <;> (rw [e]; simp)
end
/-! ### on data -/
def keysOf : List T → Option (List Key)
  | [] => some []
  | t :: ts => match toKey t, keysOf ts with
    | some k, some ks => some (k :: ks)
    | _, _ => none
theorem keysOf_rp {K : PySem.W.Frag} {G : Hp} : ∀ {xs : List V} {ts : List T} {ks : List Key}, RpL K G xs ts → keysOf ts = some ks → xs = ks.map kV
  | _, _, _, .nil, e => by cases e; rfl
  | _, _, _, .cons (d := d) (ds := ds) h r, e => by
    simp only [keysOf] at e
    split at e
    · rename_i k ks h1 h2
      cases e
      rw [List.map_cons, keysOf_rp r h2]
      congr 1
      cases h with
      | int i => cases h1; rfl
      | str x => cases h1; rfl
      | _ => cases h1
    · cases e
def mDZip (A : M (List Vw)) : M Vw := A.bind fun rs => (toTs rs).bind fun ts e => match ts with
  | [.tuple ks, .tuple us] => match keysOf ks with
    | some kk => if kk.length = us.length then .ok (.fr (.dct (mergeT [] (kk.zip us)))) e else .no
    | none => .no
  | _ => .no
theorem zip_maps {α β : Type} : ∀ {ks : List α} {xs : List β}, ks.length = xs.length → (ks.zip xs).map Prod.fst = ks ∧ (ks.zip xs).map Prod.snd = xs
  | [], [], _ => ⟨rfl, rfl⟩
  | k :: ks, x :: xs, h => by
    obtain ⟨h1, h2⟩ := zip_maps (ks := ks) (xs := xs) (by simpa using h)
    simp [h1, h2]
section
variable {X : Cx} {W : WB}
/-- dict(zip(a, b)), two tuples of one length -/
theorem xdzip {a b : Expr} {A : M (List Vw)} {p p2 pos pos2 : Pos} (hc : X.calm = true) (hg : Gl X "dict") (hm : X.mg "dict" = none) (hg2 : Gl X "zip") (hm2 : X.mg "zip" = none) (ha : XA X W [a, b] A)
    (hs : starEach [a, b] X.env = (false, eval a X.env) :: starEach [b] X.env := by rfl) (hpl : (backTo pos2 (starEach [b] X.env)).any (·.1) = false := by rfl)
    (hs2 : starEach [.Call (.Name "zip" p2) [a, b] [] pos2] X.env = (false, eval (.Call (.Name "zip" p2) [a, b] [] pos2) X.env) :: starEach [] X.env := by rfl) :
    XE X W (.Call (.Name "dict" p) [.Call (.Name "zip" p2) [a, b] [] pos2] [] pos) (mDZip A) :=
  (pe_dzip hc hg hm hg2 hm2 ha hs hpl hs2).weak fun σ H Q ⟨Z, env, rE, h⟩ => ⟨Z, env, rE, (Out.bind0 rE h).mono fun xs H1 ⟨Z1, env1, rs, p1, k1, l1, c1⟩ => by
    obtain ⟨ts, env2, r2, p2, k2, q2, c2⟩ := Out.ct.plain rE p1 k1 l1 c1
    split at c2
    · rename_i ks us
      cases q : keysOf ks with
      | none => rw [q] at c2; exact c2.elim
      | some kk =>
        rw [q] at c2
        simp only at c2
        split at c2
        case isFalse => exact c2.elim
        rename_i hl
        cases q2 with
        | cons a1 r1 =>
          cases r1 with
          | cons a2 r2' =>
            cases r2'
            cases a1 with
            | tup s1 s2 =>
              cases a2 with
              | @tup _ ys _ s3 s4 =>
                have e1 := keysOf_rp s2 q
                subst e1
                have hl2 : kk.length = ys.length := by rw [hl, s4.length]
                obtain ⟨z1, z2⟩ := zip_maps hl2
                refine ⟨_, _, kk.zip ys, rfl, ?_, by rw [z2]; exact sqT_mono hid_le s3, fun p np => ?_⟩
                · have : ((kk.zip ys).map fun kv => kV kv.1) = kk.map kV := by
                    rw [show (fun kv : Key × V => kV kv.1) = kV ∘ Prod.fst from rfl, ← List.map_map, z1]
                  rw [this]
                  exact sqT_mono hid_le s1
                · exact Out.made c2 r2 ⟨fun b o e => by rw [upd_ne (ne_of_none e np)]; exact e, p, rfl, np, _, upd_same, KvR.merge (K := kb X.g W) (KvR.zip s4) .nil⟩
    · exact c2.elim⟩
end
/-! ### d.pop(k, x) -/
def rPopK : V → List V → Hp → VK → Prop := fun x xs H Q => ∃ a kvs k d, x = .ref a ∧ xs = [kV k, d] ∧ H a = some (.dK kvs) ∧ (∀ v, valV kvs k = some v → Q v (upd H a (.dK (dropK kvs k)))) ∧ (valV kvs k = none → Q d H)
theorem mt_popK {X : Cx} : MtR X "dict.pop" rPopK := by
  intro pins s σ H x xs v us Q I rx rs h
  obtain ⟨a, kvs, k, d, rfl, rfl, e, q1, q2⟩ := h
  obtain rfl : v = Value.ref a := rx
  obtain ⟨u1, u2, rfl, r1, r2⟩ := vals2 rs
  cases l : valV kvs k with
  | some v => exact d_pop I e r1 l (.inr ⟨u2, rfl⟩) fun w' s4 I4 rw' => ⟨v, _, I4, rw', q1 v l⟩
  | none => exact d_popD I e r1 l fun s4 I4 => ⟨d, H, I4, r2, q2 l⟩
def findK (kvs : List (Key × T)) (k : Key) : Option T := match kvs with
  | [] => none
  | (a, d) :: r => if a = k then some d else findK r k
def dropKT (kvs : List (Key × T)) (k : Key) : List (Key × T) := kvs.filter fun kv => decide (kv.1 ≠ k)
theorem KvR.find {K : KB} {G : Hp} {k : Key} : ∀ {vs : List (Key × V)} {ts : List (Key × T)}, KvR K G vs ts → (findK ts k = none ∧ valV vs k = none) ∨ ∃ d v, findK ts k = some d ∧ valV vs k = some v ∧ Rp K G v d
  | _, _, .nil => .inl ⟨rfl, rfl⟩
  | _, _, .cons (k := k') (v := v) (d := d) h r => by
    by_cases e : k' = k
    · subst e
      exact .inr ⟨d, v, by simp [findK], by rw [valV_pos rfl], h⟩
    · rcases KvR.find (k := k) r with ⟨h1, h2⟩ | ⟨d', v', h1, h2, h3⟩
      · exact .inl ⟨by simp [findK, e, h1], by rw [valV_neg e]; exact h2⟩
      · exact .inr ⟨d', v', by simp [findK, e, h1], by rw [valV_neg e]; exact h2, h3⟩
theorem KvR.drop {K : KB} {G : Hp} {k : Key} : ∀ {vs : List (Key × V)} {ts : List (Key × T)}, KvR K G vs ts → KvR K G (dropK vs k) (dropKT ts k)
  | _, _, .nil => .nil
  | _, _, .cons (k := k') h r => by
    have ih := KvR.drop (k := k) r
    unfold dropK dropKT at *
    by_cases e : k' = k
    · simpa [List.filter_cons, e] using ih
    · simpa [List.filter_cons, e] using KvR.cons h ih
def popKF : List T → Ob → Option (Ob × T)
  | [kt, d], .dct kvs => match toKey kt with
    | some k => some (match findK kvs k with
      | some t => (.dct (dropKT kvs k), t)
      | none => (.dct kvs, d))
    | none => none
  | _, _ => none
theorem upd_self {H : Hp} {a : Addr} {o : HO} (h : H a = some o) : upd H a o = H := by
  funext p
  by_cases e : p = a
  · subst e; rw [upd_same, h]
  · rw [upd_ne e]
theorem s_popK {K : KB} : MeS K rPopK popKF := by
  intro G H a o o' xs ts t Q sm ho hx e k
  unfold popKF at e
  split at e
  · rename_i kt d kvs
    obtain ⟨ws, h1, h2⟩ := ho
    cases hx with
    | cons a1 r1 =>
      cases r1 with
      | cons a2 r2 =>
        cases r2
        split at e
        · rename_i kk hk
          injection e with e
          have ek := toKey_rp (a1.one (fun _ _ e => e)) hk
          subst ek
          refine ⟨a, ws, kk, _, rfl, rfl, h1, fun v hv => ?_, fun hv => ?_⟩
          · rcases h2.find (k := kk) with ⟨w1, w2⟩ | ⟨d', v', w1, w2, w3⟩
            · rw [hv] at w2; cases w2
            · rw [hv] at w2
              cases w2
              rw [w1] at e
              cases e
              exact k _ _ ⟨_, upd_same, h2.drop⟩ w3
          · rcases h2.find (k := kk) with ⟨w1, w2⟩ | ⟨d', v', w1, w2, w3⟩
            · rw [w1] at e
              cases e
              have := k (.dK ws) _ ⟨_, upd_same, h2⟩ a2
              rwa [upd_self h1] at this
            · rw [hv] at w2; cases w2
        · cases e
  · cases e
/-! ### xs[::-1], sorted(d) -/
def revF (t : T) : Option Vw := (lstT t).map fun ts => .fr (.lst ts.reverse)
theorem RpL.rev {K : PySem.W.Frag} {G : Hp} : ∀ {xs : List V} {ts : List T}, RpL K G xs ts → RpL K G xs.reverse ts.reverse
  | _, _, .nil => .nil
  | _, _, .cons h r => by
    rw [List.reverse_cons, List.reverse_cons]
    exact (RpL.rev r).append (.cons h .nil)
section
variable {X : Cx} {W : WB}
theorem xrev {e : Expr} {A : M Vw} {k : Nat} {p1 p2 p3 pos : Pos} (he : XE X W e A) : XE X W (.Subscript e (.Slice none none (some (.UnaryOp .USub (.Constant (.int 1) k p1) p2)) p3) pos) (mUn revF A) :=
  (pe_revL he).weak fun σ H Q ⟨Z, env, rE, h⟩ => ⟨Z, env, rE, (Out.ct.bind h).mono fun x H1 ⟨Z1, env1, a, q1, k1, l1, c1⟩ => by
    obtain ⟨t, et, c2⟩ := Out.look c1
    unfold opt revF at c2
    cases q : lstT t with
    | none => rw [q] at c2; exact c2.elim
    | some ts =>
      rw [q] at c2
      have l2 := l1.look1 q1.rep et
      have hs : ∃ a xs, x = .ref a ∧ SqL X.K H1 a xs ∧ RpL X.K (hid Z1 env1 σ H1) xs ts := by
        cases l2 with
        | lst a r => cases q; exact ⟨_, _, rfl, .of a, r⟩
        | ro a r => cases q; exact ⟨_, _, rfl, a, r⟩
        | _ => cases q
      obtain ⟨p, xs, rfl, w1, w2⟩ := hs
      exact ⟨p, xs, rfl, w1, fun q' np => Out.made c2 q1.rep (New.lst np w2.rev)⟩⟩
end
def intKs : List (T × T) → Option (List Int)
  | [] => some []
  | (.int i, _) :: r => (intKs r).map fun l => i :: l
  | _ :: _ => none
def sortedAF : List T → Option Vw
  | [.dict kvs] => match intKs kvs with
    | some ns => if ns.length < 64 then some (.fr (.lst ((sortI ns).map .int))) else none
    | none => none
  | ts => sortedF ts
abbrev rSortedA (k : PySem.W.Frag) : List V → Hp → VK → Prop := fun xs H Q => rSortedI k xs H Q ∨ ∃ (a : Addr) (kvs : List (Key × V)) (ks : List Int), xs = [.ref a] ∧ Rd H a (.dK kvs) ∧ kvs.map (·.1) = ks.map Sum.inl ∧ ks.length < 64 ∧
    ∀ (ys : List Int) (p : Addr), ys.Perm ks → ys.Pairwise (· ≤ ·) → H p = none → Q (.ref p) (upd H p (.lst (ys.map V.int)))
theorem cr_sortedA {X : Cx} (h : CallR X (.builtin "sorted") (rSortedI X.K)) (hc : X.calm = true) : CallR X (.builtin "sorted") (rSortedA X.K) := CallR.or h (call_sortedDI hc)
theorem intKs_rp {K : PySem.W.Frag} {G : Hp} : ∀ {vs : List (Key × V)} {ts : List (T × T)} {ns : List Int}, RpKv K G vs ts → intKs ts = some ns → vs.map (·.1) = ns.map Sum.inl
  | _, _, _, .nil, e => by cases e; rfl
  | _, _, _, .cons (k := k) (ds := ds) h r, e => by
    cases k with
    | inl i =>
      simp only [keyT, intKs] at e
      cases q : intKs ds with
      | none => rw [q] at e; cases e
      | some l =>
        rw [q] at e; cases e
        rw [List.map_cons, List.map_cons, intKs_rp r q]
    | inr x => cases e
theorem s_sortedA {K : KB} : CaS K (rSortedA K.K) sortedAF := by
  intro G H xs ts w Q sm hx e k
  unfold sortedAF at e
  split at e
  · obtain ⟨x, rfl, h⟩ := hx.one
    split at e
    · rename_i ns hn
      split at e
      · rename_i h64
        cases e
        cases h with
        | dct a r => exact .inr ⟨_, _, ns, rfl, a, intKs_rp r hn, h64, fun ys p h1 h2 h3 => by rw [sortI_eq h1 h2]; exact k _ _ (New.lst h3 (rpL_int _))⟩
      · cases e
    · cases e
  · exact .inl (s_sorted sm hx e k)
end Ev
end P_Ev19

section P_EvL
set_option Elab.async false
set_option linter.all false
set_option maxRecDepth 100000
/-! EvL: laws of the evaluator on ints, tuples, and the laws' own urn. -/
namespace Ev
open PySem L2 PySem.Spec
open PyProof.Rows hiding St
set_option autoImplicit false
theorem eq_int (i j : Int) : eqF (.int i) (.int j) = some (.v (.bool (decide (i = j)))) := by
  simp [eqF, eqT, T.pyO, SeqAt.shaped, PyData.canLay0, PyData.depth, PyData.eqv]
  rfl
theorem eq_bool (i j : Bool) : eqF (.bool i) (.bool j) = some (.v (.bool (decide (i = j)))) := by
  simp [eqF, eqT, T.pyO, SeqAt.shaped, PyData.canLay0, PyData.depth, PyData.eqv]
  cases i <;> cases j <;> rfl
theorem ne_int (i j : Int) : neF (.int i) (.int j) = some (.v (.bool (!decide (i = j)))) := by
  simp [neF, eqT, T.pyO, SeqAt.shaped, PyData.canLay0, PyData.depth, PyData.eqv]
  rfl
theorem ne_bool (i j : Bool) : neF (.bool i) (.bool j) = some (.v (.bool (!decide (i = j)))) := by
  simp [neF, eqT, T.pyO, SeqAt.shaped, PyData.canLay0, PyData.depth, PyData.eqv]
  cases i <;> cases j <;> rfl
theorem eq_pair (a b c d : Int) : eqF (.tuple [.int a, .int b]) (.tuple [.int c, .int d]) = some (.v (.bool (decide (a = c ∧ b = d)))) := by
  simp [eqF, eqT, T.pyO, T.pyOs, SeqAt.shaped, PyData.canLay0, PyData.canLayAll0, PyData.depth, PyData.depthAll, PyData.eqv, PyData.eqvAll]
  rfl
open Builtin.Int in
theorem bits_of {i : Int} {k : Nat} (h : i.natAbs < 2 ^ k) : intBits i ≤ k := by
  unfold intBits
  split
  · exact Nat.zero_le _
  · rename_i hz
    have h0 : i.natAbs ≠ 0 := fun e => hz (by simp [Int.natAbs_eq_zero.mp e])
    exact (Nat.log2_lt h0).mpr h
open Builtin.Int in
theorem lt_of_bits {i : Int} {k : Nat} (h : intBits i ≤ k) : i.natAbs < 2 ^ k := by
  unfold intBits at h
  split at h
  · rename_i hz
    have e : i = 0 := by simpa using hz
    subst e
    exact Nat.two_pow_pos k
  · rename_i hz
    have h0 : i.natAbs ≠ 0 := fun e => hz (by simp [Int.natAbs_eq_zero.mp e])
    exact (Nat.log2_lt h0).mp h
/-- |i| < 2^k -/
def Bd (k : Nat) (i : Int) : Prop := i.natAbs < 2 ^ k
instance (k : Nat) (i : Int) : Decidable (Bd k i) := by unfold Bd; exact inferInstance
theorem Bd.mono {j k : Nat} {i : Int} (h : Bd j i) (l : j ≤ k) : Bd k i := Nat.lt_of_lt_of_le h (Nat.pow_le_pow_right (by decide) l)
theorem Bd.mul {j k : Nat} {x y : Int} (h : Bd j x) (g : Bd k y) : Bd (j + k) (x * y) := by
  unfold Bd at *
  rw [Int.natAbs_mul, Nat.pow_add]
  exact Nat.mul_lt_mul'' h g
theorem Bd.add {k : Nat} {x y : Int} (h : Bd k x) (g : Bd k y) : Bd (k + 1) (x + y) := by
  unfold Bd at *
  have := Int.natAbs_add_le x y
  rw [Nat.pow_succ]; omega
theorem Bd.neg {k : Nat} {x : Int} (h : Bd k x) : Bd k (-x) := by unfold Bd at *; rwa [Int.natAbs_neg]
theorem Bd.sub {k : Nat} {x y : Int} (h : Bd k x) (g : Bd k y) : Bd (k + 1) (x - y) := by
  rw [Int.sub_eq_add_neg]; exact h.add g.neg
theorem Bd.of_le {k : Nat} {x y : Int} (h : Bd k y) (l : x.natAbs ≤ y.natAbs) : Bd k x := Nat.lt_of_le_of_lt l h
theorem mul_ok {i j : Int} {k l : Nat} (h : Bd k i) (g : Bd l j) (hk : k + l ≤ 134217728 := by decide) : mulF (.int i) (.int j) = some (.v (.int (i * j))) := by
  have h1 := bits_of h
  have h2 := bits_of g
  exact if_pos (by unfold MulOk; omega)
theorem fdiv_ok {i j : Int} {k : Nat} (h0 : j ≠ 0) (h : Bd k j) (hk : k ≤ 9000 := by decide) : fdivF (.int i) (.int j) = some (.v (.int (i.fdiv j))) :=
  if_pos ⟨h0, Nat.lt_of_lt_of_le ((Nat.log2_lt (fun e => h0 (Int.natAbs_eq_zero.mp e))).mpr h) hk⟩
theorem mod_ok {i j : Int} (h0 : j ≠ 0) : modF (.int i) (.int j) = some (.v (.int (i.fmod j))) := if_pos h0
theorem ten18 : powF (.int 10) (.int 18) = some (.v (.int 1000000000000000000)) := by
  show (if (0 : Int) ≤ 18 ∧ (18 : Int) ≤ 1000000 ∧ (10 : Int).natAbs < 2 ^ 64 then some (Vw.v (T.int ((10 : Int) ^ 18))) else none) = _
  rw [if_pos (by decide)]
  rfl
theorem ten15 : powF (.int 10) (.int 15) = some (.v (.int 1000000000000000)) := by
  show (if (0 : Int) ≤ 15 ∧ (15 : Int) ≤ 1000000 ∧ (10 : Int).natAbs < 2 ^ 64 then some (Vw.v (T.int ((10 : Int) ^ 15))) else none) = _
  rw [if_pos (by decide)]
  rfl

/-! ### the urn -/
structure Urn where
  cells : List Int
  at_ : Int
  deep : Int
  mix : Int
  turn : Int
def Urn.ob (u : Urn) : Ob := .dct [(.inr (PySem.Str.ofString "cells"), .list (u.cells.map .int)), (.inr (PySem.Str.ofString "at"), .int u.at_), (.inr (PySem.Str.ofString "deep"), .int u.deep), (.inr (PySem.Str.ofString "mix"), .int u.mix), (.inr (PySem.Str.ofString "turn"), .int u.turn)]
section
variable (u : Urn) (x : Int)
theorem Urn.g_cells : dgetF u.ob.data (.str (PySem.Str.ofString "cells")) = some (.v (.list (u.cells.map .int))) := by
  unfold Urn.ob Ob.data dgetF; rfl
theorem Urn.g_at : dgetF u.ob.data (.str (PySem.Str.ofString "at")) = some (.v (.int u.at_)) := id rfl
theorem Urn.g_deep : dgetF u.ob.data (.str (PySem.Str.ofString "deep")) = some (.v (.int u.deep)) := id rfl
theorem Urn.g_mix : dgetF u.ob.data (.str (PySem.Str.ofString "mix")) = some (.v (.int u.mix)) := id rfl
theorem Urn.g_turn : dgetF u.ob.data (.str (PySem.Str.ofString "turn")) = some (.v (.int u.turn)) := id rfl
theorem Urn.d_at : getD1 (.str (PySem.Str.ofString "at")) u.ob = some (.int u.at_) := id rfl
theorem Urn.d_turn : getD1 (.str (PySem.Str.ofString "turn")) u.ob = some (.int u.turn) := id rfl
theorem Urn.p_at : putDF (.str (PySem.Str.ofString "at")) (.int x) u.ob = some { u with at_ := x }.ob := id rfl
theorem Urn.p_deep : putDF (.str (PySem.Str.ofString "deep")) (.int x) u.ob = some { u with deep := x }.ob := id rfl
theorem Urn.p_mix : putDF (.str (PySem.Str.ofString "mix")) (.int x) u.ob = some { u with mix := x }.ob := id rfl
theorem Urn.p_turn : putDF (.str (PySem.Str.ofString "turn")) (.int x) u.ob = some { u with turn := x }.ob := id rfl
theorem Urn.st : strip u.ob = u.ob := id rfl
theorem Urn.rt (o : Ob) : retag u.ob o = o := id rfl
theorem Urn.lg {α : Type} (f : Ob → Option α) : liftG f u.ob = f u.ob := id rfl
theorem Urn.lo (f : Ob → Option Ob) : liftO f u.ob = f u.ob := id rfl
theorem Urn.ty : obT u.ob = "dict" := id rfl
end
theorem ltl0 : (0 < PySem.sizeLine) = True := eq_true (by decide)
theorem ltl1 : (1 < PySem.sizeLine) = True := eq_true (by decide)
theorem ltl2 : (2 < PySem.sizeLine) = True := eq_true (by decide)
theorem ltl3 : (3 < PySem.sizeLine) = True := eq_true (by decide)
theorem ltl4 : (4 < PySem.sizeLine) = True := eq_true (by decide)
theorem ltl5 : (5 < PySem.sizeLine) = True := eq_true (by decide)
theorem ltl6 : (6 < PySem.sizeLine) = True := eq_true (by decide)
theorem ltl7 : (7 < PySem.sizeLine) = True := eq_true (by decide)
theorem ltl8 : (8 < PySem.sizeLine) = True := eq_true (by decide)
theorem ltl9 : (9 < PySem.sizeLine) = True := eq_true (by decide)
theorem ltl10 : (10 < PySem.sizeLine) = True := eq_true (by decide)
theorem ltl11 : (11 < PySem.sizeLine) = True := eq_true (by decide)
theorem ltl12 : (12 < PySem.sizeLine) = True := eq_true (by decide)
theorem ltl13 : (13 < PySem.sizeLine) = True := eq_true (by decide)
theorem ltl14 : (14 < PySem.sizeLine) = True := eq_true (by decide)
theorem ltl15 : (15 < PySem.sizeLine) = True := eq_true (by decide)
theorem ltl16 : (16 < PySem.sizeLine) = True := eq_true (by decide)
theorem line0 : (0 ≤ PySem.sizeLine) = True := eq_true (by decide)
theorem line1 : (1 ≤ PySem.sizeLine) = True := eq_true (by decide)
theorem line2 : (2 ≤ PySem.sizeLine) = True := eq_true (by decide)
theorem line3 : (3 ≤ PySem.sizeLine) = True := eq_true (by decide)
theorem line4 : (4 ≤ PySem.sizeLine) = True := eq_true (by decide)
theorem line5 : (5 ≤ PySem.sizeLine) = True := eq_true (by decide)
theorem line6 : (6 ≤ PySem.sizeLine) = True := eq_true (by decide)
theorem line7 : (7 ≤ PySem.sizeLine) = True := eq_true (by decide)
theorem line8 : (8 ≤ PySem.sizeLine) = True := eq_true (by decide)
theorem line9 : (9 ≤ PySem.sizeLine) = True := eq_true (by decide)
theorem line10 : (10 ≤ PySem.sizeLine) = True := eq_true (by decide)
theorem line11 : (11 ≤ PySem.sizeLine) = True := eq_true (by decide)
theorem line12 : (12 ≤ PySem.sizeLine) = True := eq_true (by decide)
theorem line13 : (13 ≤ PySem.sizeLine) = True := eq_true (by decide)
theorem line14 : (14 ≤ PySem.sizeLine) = True := eq_true (by decide)
theorem line15 : (15 ≤ PySem.sizeLine) = True := eq_true (by decide)
theorem line16 : (16 ≤ PySem.sizeLine) = True := eq_true (by decide)
/-! ### applied -/
section
variable {α β : Type} (e : Sls) (A B C : M Vw) (L : M (List Vw)) (P Q : M Bool) (S S' : MS) (f g : T → T → Option Vw) (i : Nat)
theorem at_bind (m : M α) (k : α → M β) : M.bind m k e = R.bind (m e) k := id rfl
theorem at_ok (a : α) (k : α → M β) : R.bind (.ok a e) k = k a e := id rfl
theorem at_er (x : Exc) (k : α → M β) : R.bind (.er x e) k = .er x e := id rfl
theorem at_no (k : α → M β) : R.bind .no k = .no := id rfl
theorem at_var : mVar i e = match e[i]? with | some (.own _) => .ok (.sl i) e | some (.v t) => .ok (.v t) e | _ => .no := id rfl
theorem at_k (t : T) : mK t e = .ok (.v t) e := id rfl
theorem at_op : mOp f A B e = (A e).bind fun a => B.bind fun b => (lk a).bind fun s => (lk b).bind fun t => opt (f s t) := id rfl
theorem at_un (f : T → Option Vw) : mUn f A e = (A e).bind fun a => (lk a).bind fun s => opt (f s) := id rfl
theorem at_lk (r : Vw) : lk r e = match look r e with | some t => .ok t e | none => .no := id rfl
theorem at_opt (o : Option α) : opt o e = match o with | some a => .ok a e | none => .no := id rfl
theorem at_nil : mNil e = .ok [] e := id rfl
theorem at_cons : mCons A L e = (A e).bind fun a => L.bind fun bs e => .ok (a :: bs) e := id rfl
theorem at_b (f : List T → Option Vw) : mB f L e = (L e).bind fun as => (lks as).bind fun ts => opt (f ts) := id rfl
theorem at_lks0 : lks [] e = .ok [] e := id rfl
theorem at_lks1 (r : Vw) (rs : List Vw) : lks (r :: rs) e = (lk r e).bind fun t => (lks rs).bind fun ts e => .ok (t :: ts) e := id rfl
theorem at_test : mTest A e = (A e).bind fun a => (lk a).bind fun t e => match t with | .bool b => .ok b e | _ => .no := id rfl
theorem at_toTs0 : toTs [] e = .ok [] e := id rfl
theorem at_toTs1 (r : Vw) (rs : List Vw) : toTs (r :: rs) e = (toT r e).bind fun t => (toTs rs).bind fun ts e => .ok (t :: ts) e := id rfl
theorem at_toTv (t : T) : toT (.v t) e = .ok t e := id rfl
theorem at_toTf (o : Ob) : toT (.fr o) e = .ok o.data e := id rfl
theorem at_toTl (i : Nat) : toT (.sl i) e = match e[i]? with | some (.own o) => .ok o.data (e.set i (.v o.data)) | some (.v t) => .ok t e | _ => .no := id rfl
theorem at_notT : mNotT P e = (P e).bind fun c e => .ok (!c) e := id rfl
theorem at_andT : mAndT P Q e = (P e).bind fun c => if c then Q else fun e => .ok false e := id rfl
theorem at_orT : mOrT P Q e = (P e).bind fun c => if c then (fun e => .ok true e) else Q := id rfl
theorem at_if : mIf P A B e = (P e).bind fun c => if c then A else B := id rfl
theorem at_andV : mAndV A B e = (A e).bind fun a => (lk a).bind fun s => match s with | .bool true => B | .bool false => fun e => .ok (.v (.bool false)) e | _ => fun _ => .no := id rfl
theorem at_orV : mOrV A B e = (A e).bind fun a => (lk a).bind fun s => match s with | .bool false => B | .bool true => fun e => .ok (.v (.bool true)) e | _ => fun _ => .no := id rfl
theorem at_chain : mChain f g A B C e = (A e).bind fun a => B.bind fun b => (lk a).bind fun s => (lk b).bind fun t => (opt (f s t)).bind fun w => (lk w).bind fun u => match u with
  | .bool true => C.bind fun c => (lk b).bind fun t' => (lk c).bind fun v => opt (g t' v)
  | .bool false => fun e => .ok (.v (.bool false)) e
  | _ => fun _ => .no := id rfl
theorem at_set : mSet i A e = (A e).bind fun r => (put i r).bind fun _ e => .ok .nx e := id rfl
theorem at_drop : mDrop A e = (A e).bind fun _ e => .ok .nx e := id rfl
theorem at_ret : mRet A e = (A e).bind fun r e => .ok (.rt r) e := id rfl
theorem at_pass : mPass e = .ok .nx e := id rfl
theorem at_brk : mBreak e = .ok .bk e := id rfl
theorem at_cnt : mCont e = .ok .ct e := id rfl
theorem at_ifS : mIfS P S S' e = (P e).bind fun c => if c then S else S' := id rfl
theorem at_seq : mSeq S S' e = (S e).bind fun f => match f with | .nx => S' | f => fun e => .ok f e := id rfl
theorem at_putv (t : T) : put i (.v t) e = if i < e.length then .ok () (e.set i (.v t)) else .no := id rfl
theorem at_putf (o : Ob) : put i (.fr o) e = if i < e.length then .ok () (e.set i (.own o)) else .no := id rfl
theorem at_tup : mTup L e = (L e).bind fun rs => (toTs rs).bind fun ts => if ts.length ≤ PySem.sizeLine then (fun e => .ok (.v (.tuple ts)) e) else fun _ => .no := id rfl
theorem at_lst : mLst L e = (L e).bind fun rs => (toTs rs).bind fun ts => if ts.length ≤ PySem.sizeLine then (fun e => .ok (.fr (.lst ts)) e) else fun _ => .no := id rfl
theorem at_call (cf : CF) (n : String) (bs : List Bool) : mCall cf n bs L e = (L e).bind fun rs => (argsT bs rs).bind fun avs => callA cf n avs := id rfl
theorem at_callK (cf : CF) (n : String) (bs : List Bool) (p : List Nat) : mCallK cf n bs p L e = (L e).bind fun rs => (argsT bs rs).bind fun avs => match permL avs p with | some avs' => callA cf n avs' | none => fun _ => .no := id rfl
theorem at_args0 : argsT [] [] e = .ok [] e := id rfl
theorem at_args1 (b : Bool) (bs : List Bool) (r : Vw) (rs : List Vw) : argsT (b :: bs) (r :: rs) e = (argT b r e).bind fun a => (argsT bs rs).bind fun as e => .ok (a :: as) e := id rfl
theorem at_argb : argT true (.sl i) e = .ok (.b i) e := id rfl
theorem at_argt (r : Vw) : argT false r e = (toT r e).bind fun t e => .ok (.t t) e := by cases r <;> rfl
theorem at_callA (cf : CF) (n : String) (avs : List AV) : callA cf n avs e = match argsS e avs with
  | none => .no
  | some as => if (bIdx avs).Nodup then (match cf n as with
    | .rt (.sl _) _ => .no
    | .rt r as' => if likeA as as' then .ok r (back e avs as') else .no
    | .er x as' => if likeA as as' then .er x (back e avs as') else .no
    | .no => .no) else .no := id rfl
theorem at_unp (b : T → M Unit) : mUnp A b e = (A e).bind fun r => (toT r).bind fun d => (b d).bind fun _ e => .ok .nx e := id rfl
theorem at_btup (n : Nat) (bs : List T → M Unit) (ds : List T) : bTup n bs (.tuple ds) e = if ds.length = n then bs ds e else .no := id rfl
theorem at_blst (n : Nat) (bs : List T → M Unit) (ds : List T) : bLst n bs (.list ds) e = if ds.length = n then bs ds e else .no := id rfl
theorem at_bnil : bNil [] e = .ok () e := id rfl
theorem at_bcons (b : T → M Unit) (bs : List T → M Unit) (d : T) (ds : List T) : bCons b bs (d :: ds) e = (b d e).bind fun _ => bs ds := id rfl
theorem at_bname (d : T) : bName i d e = if i < e.length then .ok () (e.set i (.v d)) else .no := id rfl
theorem at_isi (k : Ty) : mIsi k A e = (A e).bind fun a => (lk a).bind fun s => opt (isiF k s) := id rfl
theorem at_notV : mNotV A e = (A e).bind fun a => (lk a).bind fun s => opt (match s with | .bool b => some (.v (.bool (!b))) | _ => none) := id rfl
theorem at_par (is : List Nat) : mPar is L e = (L e).bind fun rs => (stabs rs).bind fun rs => (puts is rs).bind fun _ e => .ok .nx e := id rfl
theorem at_stabs0 : stabs [] e = .ok [] e := id rfl
theorem at_stabs1 (r : Vw) (rs : List Vw) : stabs (r :: rs) e = (stab r e).bind fun r => (stabs rs).bind fun rs e => .ok (r :: rs) e := id rfl
theorem at_stabv (t : T) : stab (.v t) e = .ok (.v t) e := id rfl
theorem at_stabf (o : Ob) : stab (.fr o) e = .ok (.fr o) e := id rfl
theorem at_puts0 : puts [] [] e = .ok () e := id rfl
theorem at_puts1 (is : List Nat) (r : Vw) (rs : List Vw) : puts (i :: is) (r :: rs) e = (put i r e).bind fun _ => puts is rs := id rfl
theorem at_daug : mDaug i A B f e = (chk i "dict" e).bind fun _ => A.bind fun ri => (lk ri).bind fun k => (getE i (liftG (getD1 k))).bind fun old => B.bind fun r => (lk r).bind fun t => (lk ri).bind fun k' => match f old t, decide (toKey k' = toKey k) with
    | some (.v u), true => setO i (putDF k u)
    | _, _ => fun _ => .no := id rfl
theorem at_store (Ty : String) (f : T → T → Ob → Option Ob) : mStore i Ty A B f e = (B e).bind fun r => (chk i Ty).bind fun _ => A.bind fun ri => (toT r).bind fun t => (lk ri).bind fun k => (modE i fun o => (liftO (f k t) o).map fun o' => (o', .none)).bind fun _ e => .ok .nx e := id rfl
theorem at_chk (Ty : String) : chk i Ty e = match e[i]? with | some (.own o) => if obT o = Ty then .ok () e else .no | _ => .no := id rfl
theorem at_getE (f : Ob → Option T) : getE i f e = match e[i]? with | some (.own o) => (match f o with | some t => .ok t e | none => .no) | _ => .no := id rfl
theorem at_setO (f : Ob → Option Ob) : setO i f e = (modE i (fun o => (liftO f o).map fun o' => (o', .none)) e).bind fun _ e => .ok .nx e := id rfl
theorem at_modE (f : Ob → Option (Ob × T)) : modE i f e = match e[i]? with | some (.own o) => (match f o with | some (o', t) => .ok (.v t) (e.set i (.own o')) | none => .no) | _ => .no := id rfl
theorem at_meth (Ty : String) (f : List T → Ob → Option (Ob × T)) : mMeth i Ty f L e = (chk i Ty e).bind fun _ => L.bind fun rs => (toTs rs).bind fun ts => modE i (lift (f ts)) := id rfl
theorem at_for (s : M (List T)) (b : T → M Unit) : mFor s b S e = (s e).bind fun ts => forL b S ts := id rfl
theorem at_sval : sVal A e = (A e).bind fun r => (toT r).bind fun t => opt (itemsOf t) := id rfl
theorem at_rng1 : sRng1 L e = (L e).bind fun rs => (lks rs).bind fun ts e => match ts with | [.int j] => if -(2 ^ 62) ≤ j ∧ j < 2 ^ 62 then .ok (rngTs 0 j.toNat) e else .no | _ => .no := id rfl
theorem at_sl (X Y : M (Option Int)) : mSl A X Y e = (A e).bind fun a => X.bind fun lo => Y.bind fun hi => (lk a).bind fun t => opt (slF t lo hi) := id rfl
theorem at_po0 : mPo none e = .ok none e := id rfl
theorem at_po1 : mPo (some A) e = (A e).bind fun a => (lk a).bind fun t e => match t with | .int i => .ok (some i) e | _ => .no := id rfl
theorem at_lc (s : M (List T)) (b : T → M Unit) (vs : List Nat) : mLc s b P A vs e = (s e).bind fun ts e => if clear e vs then lcL b P A vs [] ts e else .no := id rfl
theorem at_dct (ks : List L2.Key) : mDct ks L e = (L e).bind fun rs => (toTs rs).bind fun ts => if ts.length = ks.length ∧ ks.length ≤ 15 then (fun e => .ok (.fr (.dct (mergeT [] (ks.zip ts)))) e) else fun _ => .no := id rfl
end
/-! ### comprehensions, loops -/
section
variable (b : T → M Unit) (C : M Bool) (E : M Vw) (vs : List Nat) (acc : List T) (e : Sls) (S : MS)
theorem at_lc0 : lcL b C E vs acc [] e = .ok (.fr (.lst acc)) e := id rfl
theorem at_lc1 (t : T) (ts : List T) : lcL b C E vs acc (t :: ts) e = (nox (b t) e).bind fun _ => (nox C).bind fun c => if c then (nox E).bind fun r => (nox (toT r)).bind fun u e => if acc.length < PySem.sizeLine then lcL b C E vs (acc ++ [u]) ts (wipeE e vs) else .no
      else fun e => lcL b C E vs acc ts (wipeE e vs) := id rfl
theorem at_nox {α : Type} (m : M α) : nox m e = match m e with | .ok a e => .ok a e | _ => .no := id rfl
theorem at_yes : cYes e = .ok true e := id rfl
theorem at_for0 : forL b S [] e = .ok .nx e := id rfl
theorem at_for1 (t : T) (ts : List T) : forL b S (t :: ts) e = (b t e).bind fun _ => S.bind (afterTurn (forL b S ts)) := id rfl
theorem at_aft_nx : afterTurn S .nx e = S e := id rfl
theorem at_aft_ct : afterTurn S .ct e = S e := id rfl
theorem at_aft_bk : afterTurn S .bk e = .ok .nx e := id rfl
theorem at_aft_rt (r : Vw) : afterTurn S (.rt r) e = .ok (.rt r) e := id rfl
theorem at_wip0 : wipeE e [] = e := id rfl
theorem at_wip1 (v : Nat) (vs : List Nat) : wipeE e (v :: vs) = (wipeE e vs).set v .non := id rfl
end
theorem at_clear0 (e : Sls) : clear e [] = true := id rfl
theorem at_clear1 (e : Sls) (i : Nat) (vs : List Nat) : clear e (i :: vs) = ((match e[i]? with | some .non => true | _ => false) && clear e vs) := id rfl
theorem set_set {α : Type} (a b : α) : ∀ (l : List α) (i : Nat), (l.set i a).set i b = l.set i b
  | [], _ => rfl
  | _ :: _, 0 => rfl
  | x :: l, i + 1 => by
    show x :: (l.set i a).set i b = x :: l.set i b
    rw [set_set a b l i]
theorem set_self {α : Type} {a : α} : ∀ {l : List α} {i : Nat}, l[i]? = some a → l.set i a = l
  | [], _, h => by simp at h
  | x :: l, 0, h => by simp at h; subst h; rfl
  | x :: l, i + 1, h => by
    show x :: l.set i a = x :: l
    rw [set_self (by simpa using h)]
theorem lt_of_get {α : Type} {a : α} {l : List α} {i : Nat} (h : l[i]? = some a) : i < l.length := (List.getElem?_eq_some_iff.mp h).1
theorem lc_name {i : Nat} {E : M Vw} {env : Sls} (h : env[i]? = some .non) (f : T → T) : ∀ (ts acc : List T), (∀ t ∈ ts, E (env.set i (.v t)) = .ok (.v (f t)) (env.set i (.v t))) → acc.length + ts.length ≤ PySem.sizeLine → lcL (bName i) cYes E [i] acc ts env = .ok (.fr (.lst (acc ++ ts.map f))) env
  | [], acc, _, _ => by simp [lcL]
  | t :: ts, acc, hE, hl => by
    have h1 : bName i t env = .ok () (env.set i (.v t)) := if_pos (lt_of_get h)
    have h2 := hE t (List.mem_cons_self)
    rw [List.length_cons] at hl
    have h3 : acc.length < PySem.sizeLine := by omega
    have h4 : wipeE (env.set i (.v t)) [i] = env := by
      show (env.set i (.v t)).set i .non = env
      rw [set_set, set_self h]
    have ih := lc_name h f ts (acc ++ [f t]) (fun t' m => hE t' (List.mem_cons_of_mem _ m)) (by rw [List.length_append]; simp; omega)
    simp only [at_lc1, at_bind, at_nox, h1, at_ok, at_yes, if_true, h2, at_toTv, if_pos h3, h4, ih, List.map_cons, List.append_assoc, List.cons_append, List.nil_append]
theorem mem_rng {lo : Int} {n : Nat} {t : T} (h : t ∈ rngTs lo n) : ∃ k : Nat, k < n ∧ t = .int (lo + k) := by
  unfold rngTs at h
  obtain ⟨k, hk, e⟩ := List.mem_map.mp h
  exact ⟨k, List.mem_range.mp hk, e.symm⟩
theorem rng_len (lo : Int) (n : Nat) : (rngTs lo n).length = n := by simp [rngTs]
theorem for_inv {b : T → M Unit} {S : MS} {n : Nat} (P : Nat → Sls → Prop) (h : ∀ (i : Nat) (t : T) (e : Sls), i < n → P i e → ∃ e1, ((b t e).bind fun _ => S) = .ok .nx e1 ∧ P (i + 1) e1) : ∀ (ts : List T) (i : Nat) (e : Sls), i + ts.length ≤ n → P i e → ∃ e', forL b S ts e = .ok .nx e' ∧ P (i + ts.length) e'
  | [], i, e, _, p => ⟨e, rfl, p⟩
  | t :: ts, i, e, l, p => by
    rw [List.length_cons] at l
    obtain ⟨e1, h1, p1⟩ := h i t e (by omega) p
    obtain ⟨e2, h2, p2⟩ := for_inv P h ts (i + 1) e1 (by omega) p1
    refine ⟨e2, ?_, by rw [List.length_cons, ← Nat.add_assoc, Nat.add_right_comm]; exact p2⟩
    rw [at_for1]
    cases q : b t e with
    | no => rw [q] at h1; cases h1
    | er x y => rw [q] at h1; cases h1
    | ok a y =>
      rw [q] at h1
      show R.bind (S y) _ = _
      rw [show S y = .ok .nx e1 from h1]
      exact h2
end Ev
end P_EvL

section P_EvH
set_option Elab.async false
set_option linter.all false
set_option maxRecDepth 100000
/-! EvH: the head of a law and its end. -/
namespace Ev
open PySem L2 PySem.Spec
open PyProof.Rows hiding St
set_option autoImplicit false
/-- the module's name x is a built-in -/
def biB (x : String) (b : String) (K : PySem.W.Frag) : Bool := He.eqO (PySem.W.nsIn K mainGlobals (PySem.Str.ofString x)) (some (some (.builtin b)))
theorem biB_ok {K : PySem.W.Frag} {h : Heap} {mg : PySem.Str → Option Value} (X : K.In h) (G : h.Ns mainGlobals mg) {x b : String} (c : biB x b K = true) : mg (PySem.Str.ofString x) = some (.builtin b) := PySem.W.mg_of X G (He.eqO_ok c)
def hookV (n : Nat) (fa : List He.Fa) (fn : List He.DefD) (ts : List He.Tab) (ex : PySem.W.Frag → Bool) : PySem.W.Hook where
  α := He.AlT × Bool
  obs := fun s => (He.obsTG n fa fn ts s.heap.get?, ex (He.frG s.heap.get? (He.asD s.heap.get? n)))
  val := fun w => (He.valT fn ts w, true)
  says := fun w h => ∃ K : PySem.W.Frag, K.In h ∧ He.SaysT fa fn ts w K ∧ ex K = true
  of := fun _ _ e => ⟨_, He.frG_in, congrArg Prod.fst e, congrArg Prod.snd e⟩
  keeps := fun _ _ _ ⟨K, hK, c⟩ k => ⟨K, PySem.W.Frag.In.keeps hK k, c⟩
def obV (n : Nat) (fa : List He.Fa) (fn : List He.DefD) (ts : List He.Tab) (ex : PySem.W.Frag → Bool) (s : PySem.W.SharedT) : He.AlT × Bool := (He.obsTG n fa fn ts (HandSHeadRun.getT s), ex (He.frG (HandSHeadRun.getT s) (He.asD (HandSHeadRun.getT s) n)))
theorem obV_eq {n : Nat} {fa : List He.Fa} {fn : List He.DefD} {ts : List He.Tab} {ex : PySem.W.Frag → Bool} (s : PySem.W.SharedT) : obV n fa fn ts ex s = (hookV n fa fn ts ex).obs s.abs := by
  have e : HandSHeadRun.getT s = s.abs.heap.get? := funext (HandSHeadRun.getT_eq s)
  unfold obV
  rw [e] <;> rfl
/-- a module's def -/
def dq (x : String) (st : Stmt) : He.DefD := ⟨(PySem.Str.ofString x, none), PySem.Str.ofString x, PySem.Str.ofString x, defArgs st, defBody st, defScope st, [], []⟩
theorem fun_ofD {K : PySem.W.Frag} {x qual : PySem.Str} {st : Stmt} {f : Addr} {fd : FuncData} (F : L2.FunD K x qual (defArgs st) (defBody st) (defScope st) [] [] f fd) : Fun K x qual st f fd := by
  obtain ⟨oc, od, dV, kV, doc, pm, an, cdv, ct, osl, rfl, lk, hcd, hD, hK⟩ := F.ex
  rcases hD with ⟨_, rfl⟩ | ⟨e, _⟩
  · exact ⟨⟨oc, od, kV, doc, pm, an, cdv, ct, osl, rfl, lk, hcd⟩, F.kp⟩
  · exact (e rfl).elim
theorem binds_of {K : PySem.W.Frag} {fd : FuncData} {ps : List PySem.Str} (h : ∀ (s : Shared) (us : List Value), us.length = ps.length → BindsTo s fd ⟨us, []⟩ (ps.zip us)) : Binds K fd ps [] := fun s us _ hl => by
  rw [List.append_nil] at hl ⊢
  exact h s us hl
/-- what the head tells of one def -/
structure DefH (K : PySem.W.Frag) (mg : PySem.Str → Option Value) (f : String) (c : Fn) (st : Stmt) (fa : Addr) (fd : FuncData) : Prop where
  at_ : DefAt K mg f c fa fd
  fn : Fun K (PySem.Str.ofString f) (PySem.Str.ofString f) st fa fd
  bd : ∀ (s : Shared) (us : List Value), us.length = (c.ps.map PySem.Str.ofString).length → BindsTo s fd ⟨us, []⟩ ((c.ps.map PySem.Str.ofString).zip us)
/-- how a def binds, whatever else its object holds -/
def BndOk (f : String) (st : Stmt) (ps : List String) : Prop := ∀ (kV doc pm : Value) (an : Option Addr) (cdv ct : Value) (us : List Value), us.length = (ps.map PySem.Str.ofString).length →
  bindArgs (PySem.W.fnOf (PySem.Str.ofString f) (PySem.Str.ofString f) (defArgs st) (defBody st) (defScope st) .none kV doc pm an cdv ct) ⟨us, []⟩ = pure ((ps.map PySem.Str.ofString).zip us)
def KwdOk (f : String) (st : Stmt) (ps : List String) (kws : List (List String × List Nat)) : Prop := ∀ (kV doc pm : Value) (an : Option Addr) (cdv ct : Value) (ks : List String) (perm : List Nat), (ks, perm) ∈ kws →
  KwOk (PySem.W.fnOf (PySem.Str.ofString f) (PySem.Str.ofString f) (defArgs st) (defBody st) (defScope st) .none kV doc pm an cdv ct) ps ks perm
theorem kwd0 {f : String} {st : Stmt} {ps : List String} : KwdOk f st ps [] := fun _ _ _ _ _ _ _ _ h => by cases h
theorem defH_of {K : PySem.W.Frag} {h : Heap} {mg : PySem.Str → Option Value} (X : K.In h) (G : h.Ns mainGlobals mg) {fa : List He.Fa} {fn : List He.DefD} {ts : List He.Tab} {w : World} (S : He.SaysT fa fn ts w K) (f : String) (c : Fn) (st : Stmt) (i : Nat)
    (hi : fn[i]? = some (dq f st)) (hg : fa[i]? = some (.glo (PySem.Str.ofString f))) (hb : BndOk f st c.ps) (hk : KwdOk f st c.ps c.kws) : ∃ a fd, DefH K mg f c st a fd := by
  obtain ⟨fd, F⟩ := S.d.def_ i hi
  have g := He.glo_ok X G (S.d.fact i hg)
  have F' := fun_ofD (st := st) F
  obtain ⟨oc, od, dV, kV, doc, pm, an, cdv, ct, osl, rfl, lk, hcd, hD, hK⟩ := F.ex
  rcases hD with ⟨_, rfl⟩ | ⟨e, _⟩
  · have b : ∀ (s : Shared) (us : List Value), us.length = (c.ps.map PySem.Str.ofString).length → BindsTo s _ ⟨us, []⟩ ((c.ps.map PySem.Str.ofString).zip us) := fun s us hl => .of_eq (hb kV doc pm an cdv ct us hl)
    exact ⟨_, _, ⟨g, F.kp, binds_of b, hk kV doc pm an cdv ct⟩, F', b⟩
  · exact (e rfl).elim
section
variable {Γ : String → Option Fn} {P : Program} {w : World} {K : PySem.W.Frag} {mg : PySem.Str → Option Value} {base : Heap}
theorem tb_all (at_ : ∀ f c, Γ f = some c → ∃ fa fd, DefAt K mg f c fa fd ∧ ∀ n, Tb Γ P w K mg base n → FnOk P w K mg base (L2.CX P w) (n + 1) fa fd (c.ps.map PySem.Str.ofString) (spF ⟨K, mg⟩ (runFn c (callN Γ n)))) : ∀ n, Tb Γ P w K mg base n
  | 0 => ⟨fun f c h => by
    obtain ⟨fa, fd, d, _⟩ := at_ f c h
    exact ⟨fa, fd, d, ⟨fun vs H Q E q => (spF_none (fun _ => rfl) q).elim, fun _ _ _ _ _ _ _ _ _ _ _ _ _ q => (spF_none (fun _ => rfl) q).elim⟩⟩⟩
  | n + 1 => ⟨fun f c h => by
    obtain ⟨fa, fd, d, k⟩ := at_ f c h
    refine ⟨fa, fd, d, ?_⟩
    have e : callN Γ (n + 1) f = runFn c (callN Γ n) := by
      funext as
      show (match Γ f with | some c => runFn c (callN Γ n) as | none => .no) = _
      rw [h]
    rw [e]
    exact k n (tb_all at_ n)⟩
end
theorem rpL_ints {K : PySem.W.Frag} {H : Hp} : ∀ ns : List Int, RpL K H (ns.map V.int) (ns.map T.int)
  | [] => .nil
  | n :: r => .cons (.int n) (rpL_ints r)
/-- what a law must be shown to answer -/
def LawSays (Γ : String → Option Fn) (N : Nat) : Prop := ∀ ns : List Int, ns.length ≤ 63 → (∀ z ∈ ns, Builtin.Int.intBits z ≤ 1048576) → ∃ as, callN Γ N "law" [.v (.ro (ns.map .int))] = .rt (.v (.bool true)) as
theorem callN_at {Γ : String → Option Fn} {n : Nat} {f : String} {c : Fn} (h : Γ f = some c) : callN Γ (n + 1) f = runFn c (callN Γ n) := by
  funext as
  show (match Γ f with | some c => runFn c (callN Γ n) as | none => .no) = _
  rw [h]
/-- .. of a law that stands in no table -/
def LawRuns (c : Fn) (Γ : String → Option Fn) (N : Nat) : Prop := ∀ ns : List Int, ns.length ≤ 63 → (∀ z ∈ ns, Builtin.Int.intBits z ≤ 1048576) → ∃ as, runFn c (callN Γ N) [.v (.ro (ns.map .int))] = .rt (.v (.bool true)) as
theorem LawSays.runs {Γ : String → Option Fn} {N : Nat} {c : Fn} (hc : Γ "law" = some c) (h : LawSays Γ (N + 1)) : LawRuns c Γ N := fun ns h1 h2 => by
  obtain ⟨as, e⟩ := h ns h1 h2
  rw [callN_at hc] at e
  exact ⟨as, e⟩
theorem sp_law {Γ : String → Option Fn} {N : Nat} {c : Fn} (math : LawRuns c Γ N) {K : PySem.W.Frag} {mg : PySem.Str → Option Value} {H : Hp} {a : Addr} {ns : List Int} (hlen : ns.length ≤ 63) (hbits : ∀ z ∈ ns, Builtin.Int.intBits z ≤ 1048576) (hS : SqL K H a (ns.map V.int)) {E : XK} :
    spF ⟨K, mg⟩ (runFn c (callN Γ N)) [.ref a] H (fun v _ => v = .bl true) E := by
  obtain ⟨as, e⟩ := math ns hlen hbits
  refine ⟨fun _ => False, [.v (.ro (ns.map .int))], fun _ => 0, ?_, ?_⟩
  · have so : ∀ p, ¬ SO [Sl.v (.ro (ns.map T.int))] [some (V.ref a)] p := by
      rintro p ⟨i, o, h, _⟩
      cases i with
      | zero => cases h
      | succ i => cases h
    have eh : hid (fun _ => False) [Sl.v (.ro (ns.map T.int))] [some (V.ref a)] H = H := by
      funext p
      unfold hid
      rw [if_neg]
      rintro (h | h)
      · exact h
      · exact so p h
    refine ⟨rfl, fun i t h => ?_, fun i o h => ?_, fun i j o o' b h _ => ?_, fun p h => h.elim⟩
    · cases i with
      | zero =>
        injection h with h
        injection h with h
        subst h
        refine ⟨_, rfl, ?_⟩
        show Rp K (hid (fun _ => False) [Sl.v (.ro (ns.map T.int))] [some (V.ref a)] H) _ _
        rw [eh]
        exact .ro hS (rpL_ints ns)
      | succ i => cases h
    · cases i with
      | zero => cases h
      | succ i => cases h
    · cases i with
      | zero => cases h
      | succ i => cases h
  · rw [e]
    intro x H' Z' p r
    have r1 : Rp K (hid Z' as ([V.ref a].map some) H') x (.bool true) := r
    cases r1
    rfl
theorem walkV {l : PySem.W.OpenLaw} {n N : Nat} {q : Program} {loose : List PySem.Str} {XP : (PySem.Str → Option Value) → Heap → Prop} {d : DefRec} {fa : List He.Fa} {fn : List He.DefD} {ts : List He.Tab} {ex : PySem.W.Frag → Bool} {Γ : String → Option Fn} {c : Fn} {st : Stmt} {x : String}
    (hn : l.most = some 63) (hdf : d.params.defaults = []) (hr : Room (N + 1) callerA) (hd : d.name = PySem.Str.ofString "law") (hc : Γ "law" = some c) (hps : c.ps = [x]) (math : LawSays Γ (N + 1))
    (F : ∀ (w : World) (mg : PySem.Str → Option Value) (h : Heap) (K : PySem.W.Frag), K.In h → h.Ns mainGlobals mg → He.SaysT fa fn ts w K → ex K = true → ∃ a fd, DefH K mg "law" c st a fd ∧ ∀ base : Heap, FnOk l.prog w K mg base (L2.CX l.prog w) (N + 1) a fd (c.ps.map PySem.Str.ofString) (spF ⟨K, mg⟩ (runFn c (callN Γ N)))) :
    PySem.W.WalkO q loose XP (hookV n fa fn ts ex).says l.row.toRowW d [] (fun f vs => PySem.call f vs) := by
  refine Att.attach_callB hn hdf fun w s₀ s₁ mg mb fa' o pm cd doc a vs ns G Y ho hd' hcd hmg hobj hints hlen hbits hg => ?_
  obtain ⟨K, KX, S, e⟩ := Y
  obtain ⟨a1, fd1, D1, k⟩ := F w mg _ K KX G.T.g S e
  rw [hd] at hmg
  have ps : c.ps.map PySem.Str.ofString = [PySem.Str.ofString x] := by rw [hps]; rfl
  have e1 := D1.at_.mg.symm.trans hmg
  cases e1
  rw [ps] at k
  exact law_call (sp := spF ⟨K, mg⟩ (runFn c (callN Γ N))) KX G.T.g G.T.b G.T.builtins G.T.nolimit hg hobj hints (Nat.le_trans hlen (by decide)) hr (fun base _ _ => k base) (fun s u => by
    have := D1.bd s [u] (by rw [ps]; rfl)
    rw [ps] at this
    exact this) (fun H hO hS => by
    exact sp_law (math.runs hc) hlen hbits hS) fun H e s' => by
    rintro ⟨_, _, _, _, _, _, _, _, _, _, _, _, z⟩
    exact z
end Ev
end P_EvH

section P_EvG
set_option Elab.async false
set_option linter.all false
set_option maxRecDepth 100000
/-! EvG: the end of a law whose own def asks repr: what guards its frame is known. -/
namespace Ev
open PySem L2 PySem.Spec
open PyProof.Rows hiding St
set_option autoImplicit false
/-- one call of a def, around it A -/
theorem runAt {P : Program} {w : World} {K : PySem.W.Frag} {mg : PySem.Str → Option Value} {base : Heap} {k : Nat} {x : PySem.Str} {st : Stmt} {f : Addr} {fd : FuncData} {N ps : List PySem.Str}
    (F : Fun K x x st f fd) (S : FnScope N ps (defScope st)) {A : Around} {outer : List Env} {s0 : Shared} {H : Hp} {args : PySem.Args} {us : List Value} {vs : List V} {Q : VK} {E : XK}
    (room : Room (k + 1) A) (env : Env0 P w K mg base A outer s0 H) (binds : BindsTo s0 fd args (ps.zip us)) (rel : Vals vs us) (many : vs.length = ps.length)
    (body : ∀ cdv : Value, ∃ t, PSs (cxOf (L2.CX P w) P w K mg base N x (defScope st) f cdv A outer s0 H E) (defBody st) t ∧ t { nx := fun _ H' => Q .non H', rt := Q } (start N vs) H) :
    codeAny (model P w) A (.call (.ref f) args) (CR (L2.CX P w) outer P w H s0 Q E) s0 := by
  obtain ⟨oc, od, kV, doc, pm, an, cdv, ct, osl, rfl, lk, hcd⟩ := F.ex
  have inK : K.In s0.heap :=
    env.mod.kin.keeps fun a o z => (env.bs a o z).1
  have noLim : s0.heap.NoLimit :=
    env.mod.nolimit.keeps fun a o z => (env.bs a o z).1
  have kinds : ∀ y ∈ ps.zip us, (defScope st).names.lookup y.1 = some .local ∨
      ((defScope st).names.lookup y.1 = some .cell ∧ ((cellsFrom (s0.heap.objs.size + 1) (defScope st).names []).lookup y.1).isSome = true) := by
    rintro ⟨n, v⟩ hy
    have hn := (List.of_mem_zip hy).1
    cases S.par n hn with
    | inl q => exact Or.inl q
    | inr q => exact Or.inr ⟨q, PySem.W.cellsFrom_some _ _ _ (Or.inl q)⟩
  obtain ⟨t, ht, hq⟩ := body cdv
  refine codeAny_call_function room.depth (inK _ _ lk) rfl S.co S.gen rfl
    (PySem.W.codeRec_of inK hcd) (binds _ _ _ _ ?_)
  refine wpAny_newFunctionEnv_cells S.kind kinds ?_
  rintro env1 rfl s1 started
  refine ⟨noLim.keeps started.toInCall.keep, codeAny_func ?_⟩
  have I0 := inv_start (CX := L2.CX P w) (E := E) S room.hd env many rel started
  refine wpAny_mono (ht.run [] s1 (start N vs) H _ I0 hq) ?_ (fun _ _ z => z)
  intro fl s2 z
  cases fl with
  | brk => obtain ⟨_, _, _, q⟩ := z; exact q.elim
  | cont => obtain ⟨_, _, _, q⟩ := z; exact q.elim
  | next =>
    obtain ⟨σ2, H2, J, q⟩ := z
    exact ⟨V.non, H2, J.os, J.bare, J.base, J.hok, rfl, q⟩
  | ret u =>
    obtain ⟨v, σ2, H2, J, rv, q⟩ := z
    exact ⟨v, H2, J.os, J.bare, J.base, J.hok, rv, q⟩
/-- the law's own call, at the heap behind the top: R tells one call over a heap in which the script alone is tracked -/
theorem lawAt {P : Program} {w : World} {K : PySem.W.Frag} {mg mb : PySem.Str → Option Value} {fa a : Addr} {s1 : Shared} {us : List Value} {ns : List Int}
    (inK : K.In s1.heap) (nsG : s1.heap.Ns mainGlobals mg) (nsB : s1.heap.Ns builtinsNs mb) (boot : ∀ y : PySem.Str, y ≠ "__name__" → mb y = bootBuiltins y)
    (noLim : s1.heap.NoLimit) (noGen : s1.gens = #[]) (script : s1.heap.get? a = some { cls := .type "list", data := .seq us.toArray })
    (areInts : IntsAre us ns) (few : ns.length ≤ sizeLine)
    (R : ∀ (base : Heap) (H : Hp), Only H → SqL K H a (ns.map V.int) → Env0 P w K mg base callerA [] s1 H →
      codeAny (model P w) callerA (.call (.ref fa) ⟨[.ref a], []⟩) (CR (L2.CX P w) [] P w H s1 (fun v _ => v = .bl true) fun _ _ _ => False) s1) :
    codeAny (model P w) callerA (.call (.ref fa) ⟨[.ref a], []⟩)
      (fun r s2 => r = .ok (.ret (.bool true)) ∧ OldK s1.heap s2.heap ∧ s2.os = s1.os ∧ AllBare s2.gens) s1 := by
  have rel := vals_ints areInts
  have size := areInts.length
  have key : ∀ H : Hp, (∀ c, H c ≠ none → c = a ∧ K.lookup a = none) → Only H → SqL K H a (ns.map V.int) → HOk P w H s1.heap →
      codeAny (model P w) callerA (.call (.ref fa) ⟨[.ref a], []⟩)
        (fun r s2 => r = .ok (.ret (.bool true)) ∧ OldK s1.heap s2.heap ∧ s2.os = s1.os ∧ AllBare s2.gens) s1 := by
    intro H alone only tracked good
    have free : ∀ {c : Addr} {o : Obj}, s1.heap.get? c = some o → (∀ n, o.data ≠ .seq us.toArray n) ∨ K.lookup a ≠ none → H c = none := by
      intro c o hc hd
      cases q : H c with
      | none => rfl
      | some y =>
        obtain ⟨e1, e2⟩ := alone c (by rw [q]; exact fun z => by cases z)
        rcases hd with hd | hd
        · subst e1
          rw [script] at hc
          cases hc
          exact absurd rfl (hd _)
        · exact absurd e2 hd
    have names : ∀ {c : Addr} {m : PySem.Str → Option Value}, s1.heap.Ns c m → (hidT s1.heap H).Ns c m := by
      rintro c m ⟨o, es, ep, hc, hd, rest⟩
      exact ⟨o, es, ep, hidT_get hc (free hc (Or.inl fun n z => by rw [hd] at z; cases z)), hd, rest⟩
    have part : K.In (hidT s1.heap H) := by
      intro c o hc
      have at1 := inK c o hc
      refine hidT_get at1 ?_
      cases q : H c with
      | none => rfl
      | some y =>
        obtain ⟨e1, e2⟩ := alone c (by rw [q]; exact fun z => by cases z)
        rw [e1, e2] at hc
        cases hc
    obtain ⟨mc, lim1, lim2⟩ := noLim
    have parts : Mod K mg (hidT s1.heap H) :=
      ⟨part, names nsG, ⟨mb, names nsB, boot⟩, ⟨mc, names lim1, lim2⟩⟩
    have E0 : Env0 P w K mg (hidT s1.heap H) callerA [] s1 H :=
      { frames := rfl, mod := parts, bs := fun c o z => of_hidT z, bsz := Nat.le_of_eq (hidT_size _ _), funs := trivial
        frf := fun c z => by cases z
        hok := good, bare := .of_eq noGen }
    refine codeAny_mono (R _ H only tracked E0) ?_
    intro r s2 h
    cases r with
    | error e =>
      obtain ⟨_, _, _, _, _, _, _, _, _, _, _, _, z⟩ := h
      exact z.elim
    | ok fl =>
      cases fl with
      | ret u =>
        obtain ⟨v, H2, sameOs, bare, un, good2, ru, hv⟩ := h
        have hv : v = .bl true := hv
        subst hv
        cases ru
        refine ⟨rfl, OldK.of_keep ?_, sameOs, bare⟩
        intro c o hc
        rcases only c with z | ⟨ob, xs, z⟩
        · exact un.keep c o hc z (by intro y; cases y) (by intro y; cases y)
        · have z2 := un.frzs c ob _ z
          have g1 := (good c _ z).1
          have g2 := (good2 c _ z2).1
          rw [hc] at g1
          cases g1
          exact g2
      | _ => exact h.elim
  cases q : K.lookup a with
  | some o =>
    have at1 := inK a o q
    rw [script] at at1
    cases at1
    have tr : SqL K (fun _ => none) a (ns.map V.int) := Or.inr ⟨_, us.toArray, _, q, rfl, rfl, rfl, by rw [List.size_toArray, size]; exact few, by simpa using rel⟩
    exact key (fun _ => none) (fun _ z => absurd rfl z) (fun _ => Or.inl rfl) tr (fun _ _ z => by cases (show (none : Option HO) = some _ from z))
  | none =>
    let O : Obj := { cls := .type "list", data := .seq us.toArray }
    let H1 : Hp := fun c => if c = a then some (.frz O (.lst (ns.map V.int))) else none
    have at_a : H1 a = some (.frz O (.lst (ns.map V.int))) := if_pos rfl
    have off : ∀ c, c ≠ a → H1 c = none := fun c z => if_neg z
    refine key H1 (fun c z => ?_) (fun c => ?_) (Or.inl (Or.inr ⟨O, at_a⟩)) (fun c y z => ?_)
    · by_cases e : c = a
      · exact ⟨e, q⟩
      · exact absurd (off c e) z
    · by_cases e : c = a
      · subst e
        exact Or.inr ⟨_, _, at_a⟩
      · exact Or.inl (off c e)
    · by_cases e : c = a
      · subst e
        rw [at_a] at z
        cases z
        exact ⟨script, by rw [List.length_map]; exact few, us, _, rel, script⟩
      · rw [off c e] at z
        cases z
/-- as walkV, for a law whose own def may ask for repr: dv, its derivation, is told what guards the frame -/
theorem walkG {l : PySem.W.OpenLaw} {n N : Nat} {q : Program} {loose : List PySem.Str} {XP : (PySem.Str → Option Value) → Heap → Prop} {d : DefRec} {fa : List He.Fa} {fn : List He.DefD} {ts : List He.Tab}
    {ex : PySem.W.Frag → Bool} {Γ : String → Option Fn} {c : Fn} {st : Stmt} {x : String} {NN : List PySem.Str}
    (hn : l.most = some 63) (hdf : d.params.defaults = []) (hr : Room (N + 1) callerA) (hd : d.name = PySem.Str.ofString "law") (hps : c.ps = [x]) (math : LawRuns c Γ N)
    (S : FnScope NN [PySem.Str.ofString x] (defScope st)) (hcn : c.n = NN.length)
    (F : ∀ (w : World) (mg : PySem.Str → Option Value) (h : Heap) (K : PySem.W.Frag), K.In h → h.Ns mainGlobals mg → He.SaysT fa fn ts w K → ex K = true → ∃ a fd, DefH K mg "law" c st a fd ∧
      ∀ (base : Heap) (cdv : Value) (A : Around) (outer : List Env) (s : Shared) (H : Hp) (E : XK) (β : Nat → Addr), A.guards = some [] →
        Room N (cxOf (L2.CX l.prog w) l.prog w K mg base NN (PySem.Str.ofString "law") (defScope st) a cdv A outer s H E).A →
        XSs (cxOf (L2.CX l.prog w) l.prog w K mg base NN (PySem.Str.ofString "law") (defScope st) a cdv A outer s H E) (wOf E β) (defBody st) (c.body (callN Γ N))) :
    PySem.W.WalkO q loose XP (hookV n fa fn ts ex).says l.row.toRowW d [] (fun f vs => PySem.call f vs) := by
  refine Att.attach_callB hn hdf ?_
  intro w s0 s1 mg mb fa1 o pm cd doc a us ns G Y ho hd1 hcd hmg hobj hints hlen hbits hg
  obtain ⟨K, inK, says, more⟩ := Y
  obtain ⟨a1, fd1, D1, dv⟩ := F w mg _ K inK G.T.g says more
  rw [hd] at hmg
  have same := D1.at_.mg.symm.trans hmg
  cases same
  refine lawAt inK G.T.g G.T.b G.T.builtins G.T.nolimit hg hobj hints (Nat.le_trans hlen (by decide)) ?_
  intro base H only tracked env0
  have bd := D1.bd s1 [.ref a] (by rw [hps]; rfl)
  rw [hps] at bd
  refine runAt (N := NN) (ps := [PySem.Str.ofString x]) (us := [.ref a]) (vs := [.ref a]) D1.fn S hr env0 bd (.cons rfl .nil) rfl ?_
  intro cdv
  obtain ⟨Z, as, β, rE, h⟩ := sp_law (mg := mg) (E := fun _ _ _ => False) math hlen hbits tracked
  have hpl : 1 ≤ NN.length := by
    have := congrArg List.length S.pre
    rw [List.length_take] at this
    simp at this
    omega
  by_cases hl : as.length = c.ps.length
  · rw [show runFn c (callN Γ N) as = finish as (c.body (callN Γ N) (enter as c.n)) from if_pos hl] at h
    have one : as.length = 1 := by rw [hl, hps]; rfl
    refine ⟨_, dv base cdv callerA [] s1 H (fun _ _ _ => False) (adrs [.ref a]) rfl (hr.deeper _), Z, enter as NN.length, enter_rep (g := ⟨K, mg⟩) rE (by omega), ?_⟩
    refine finish_ok (g := ⟨K, mg⟩) (Q := fun v _ => v = .bl true) (r := c.body (callN Γ N) (enter as NN.length)) (W := wOf (fun _ _ _ => False) (adrs [.ref a])) (E := fun _ _ _ => False) rE (by omega) rfl (fun cls d σ H h => h) ?_
    rw [← hcn]
    exact h
  · rw [show runFn c (callN Γ N) as = .no from if_neg hl] at h
    exact h.elim
end Ev
end P_EvG

section P_EvM
set_option Elab.async false
set_option linter.all false
set_option maxRecDepth 100000
/-! EvM: more laws of the evaluator: calls over any table, tests that stay open, lists of three ints, loops by folds. -/
namespace Ev
open PySem L2 PySem.Spec
open PyProof.Rows hiding St
set_option autoImplicit false
theorem callN_eq {Γ : String → Option Fn} {f : String} {c : Fn} {k : List (List String × List Nat)} (h : Γ f = some { c with kws := k }) (n : Nat) (as : Args) : callN Γ (n + 1) f as = runFn c (callN Γ n) as := by
  show (match Γ f with | some c => runFn c (callN Γ n) as | none => .no) = _
  rw [h]
  rfl
/-! ### tests that stay open -/
section
variable {α β : Type} (e : Sls)
theorem ite_app {c : Prop} [Decidable c] (A B : M α) : (if c then A else B) e = if c then A e else B e := by split <;> rfl
theorem bind_ite {c : Prop} [Decidable c] (A B : R α) (k : α → M β) : R.bind (if c then A else B) k = if c then A.bind k else B.bind k := by split <;> rfl
theorem at_aug (i : Nat) (f : T → T → Option Vw) (A : M Vw) : mAug i f A e = (mVar i e).bind fun r => A.bind fun s => (lk r).bind fun a => (lk s).bind fun b => (opt (f a b)).bind fun w => (put i w).bind fun _ e => .ok .nx e := id rfl
theorem at_mForI1 (i : Nat) (b : T → M Unit) (B : MS) : mForI i b B e = match e[i]? with
  | some (.v (.dict kvs)) => forL b (nox B) (itemTs kvs) e
  | some (.own (.dct kvs)) => forL b (nox B) (itemTs (kvs.map fun p => (keyT p.1, p.2))) (e.set i (.v (.dict (kvs.map fun p => (keyT p.1, p.2)))))
  | _ => .no := id rfl
end
/-! ### a list of three ints that is drawn from -/
structure Sr where
  deep : Int
  seed : Int
  many : Int
def Sr.ob (s : Sr) : Ob := .lst [.int s.deep, .int s.seed, .int s.many]
section
variable (s : Sr) (x : Int)
theorem Sr.st : strip s.ob = s.ob := id rfl
theorem Sr.rt (o : Ob) : retag s.ob o = o := id rfl
theorem Sr.lg {α : Type} (f : Ob → Option α) : liftG f s.ob = f s.ob := id rfl
theorem Sr.lo (f : Ob → Option Ob) : liftO f s.ob = f s.ob := id rfl
theorem Sr.ty : obT s.ob = "list" := id rfl
theorem Sr.g0 : ixF s.ob.data (.int 0) = some (.v (.int s.deep)) := id rfl
theorem Sr.g1 : ixF s.ob.data (.int 1) = some (.v (.int s.seed)) := id rfl
theorem Sr.g2 : ixF s.ob.data (.int 2) = some (.v (.int s.many)) := id rfl
theorem Sr.s0 : setLF (.int 0) (.int x) s.ob = some ({ s with deep := x } : Sr).ob := id rfl
theorem Sr.s2 : setLF (.int 2) (.int x) s.ob = some ({ s with many := x } : Sr).ob := id rfl
theorem Sr.tst (j : Nat) : strip (.tg j s.ob) = s.ob := id rfl
theorem Sr.trt (j : Nat) (o : Sr) : retag (.tg j s.ob) o.ob = .tg j o.ob := id rfl
end
/-! ### loops -/
/-- a loop that carries a state -/
theorem for_fold {σ ι : Type} {b : T → M Unit} {S : MS} (E : σ → Sls) (g : ι → T) (step : σ → ι → σ) (P : σ → Prop) : ∀ (xs : List ι) (s : σ), P s → (∀ s, P s → ∀ x ∈ xs, ((b (g x) (E s)).bind fun _ => S) = .ok .nx (E (step s x)) ∧ P (step s x)) →
    forL b S (xs.map g) (E s) = .ok .nx (E (xs.foldl step s)) ∧ P (xs.foldl step s)
  | [], s, p, _ => ⟨rfl, p⟩
  | x :: xs, s, p, h => by
    obtain ⟨h1, p1⟩ := h s p x List.mem_cons_self
    obtain ⟨h2, p2⟩ := for_fold E g step P xs (step s x) p1 fun s p x m => h s p x (List.mem_cons_of_mem _ m)
    refine ⟨?_, p2⟩
    rw [List.map_cons, at_for1]
    cases q : b (g x) (E s) with
    | no => rw [q] at h1; cases h1
    | er y w => rw [q] at h1; cases h1
    | ok a y =>
      rw [q] at h1
      show R.bind (S y) _ = _
      rw [show S y = .ok .nx (E (step s x)) from h1]
      exact h2
theorem nox_ok {α : Type} {m : M α} {e e1 : Sls} {a : α} (h : m e = .ok a e1) : nox m e = .ok a e1 := by unfold nox; rw [h]
/-- a comprehension over data, every item taken -/
theorem lc_map {ι : Type} {i : Nat} {E : M Vw} {env : Sls} (h : env[i]? = some .non) (g : ι → T) (f : ι → T) (xs : List ι) (hE : ∀ x ∈ xs, E (env.set i (.v (g x))) = .ok (.v (f x)) (env.set i (.v (g x)))) (hl : xs.length ≤ PySem.sizeLine) :
    lcL (bName i) cYes E [i] [] (xs.map g) env = .ok (.fr (.lst (xs.map f))) env := by
  have key : ∀ (xs : List ι) (acc : List T), (∀ x ∈ xs, E (env.set i (.v (g x))) = .ok (.v (f x)) (env.set i (.v (g x)))) → acc.length + xs.length ≤ PySem.sizeLine → lcL (bName i) cYes E [i] acc (xs.map g) env = .ok (.fr (.lst (acc ++ xs.map f))) env := by
    intro xs
    induction xs with
    | nil => intro acc _ _; simp [lcL]
    | cons x xs ih =>
      intro acc hE hl
      have h1 : bName i (g x) env = .ok () (env.set i (.v (g x))) := if_pos (lt_of_get h)
      have h2 := hE x List.mem_cons_self
      rw [List.length_cons] at hl
      have h3 : acc.length < PySem.sizeLine := by omega
      have h4 : wipeE (env.set i (.v (g x))) [i] = env := by
        show (env.set i (.v (g x))).set i .non = env
        rw [set_set, set_self h]
      have ih' := ih (acc ++ [f x]) (fun x m => hE x (List.mem_cons_of_mem _ m)) (by rw [List.length_append]; simp; omega)
      simp only [List.map_cons, at_lc1, at_bind, at_nox, h1, at_ok, at_yes, if_true, h2, at_toTv, if_pos h3, h4, ih', List.append_assoc, List.cons_append, List.nil_append]
  simpa using key xs [] hE (by simpa using hl)
/-- .. those that a test takes -/
theorem lc_filter {ι : Type} {i : Nat} {C : M Bool} {E : M Vw} {env : Sls} (h : env[i]? = some .non) (g : ι → T) (f : ι → T) (p : ι → Bool) (xs : List ι) (hC : ∀ x ∈ xs, C (env.set i (.v (g x))) = .ok (p x) (env.set i (.v (g x))))
    (hE : ∀ x ∈ xs, p x = true → E (env.set i (.v (g x))) = .ok (.v (f x)) (env.set i (.v (g x)))) (hl : xs.length ≤ PySem.sizeLine) : lcL (bName i) C E [i] [] (xs.map g) env = .ok (.fr (.lst ((xs.filter p).map f))) env := by
  have key : ∀ (xs : List ι) (acc : List T), (∀ x ∈ xs, C (env.set i (.v (g x))) = .ok (p x) (env.set i (.v (g x)))) → (∀ x ∈ xs, p x = true → E (env.set i (.v (g x))) = .ok (.v (f x)) (env.set i (.v (g x)))) → acc.length + xs.length ≤ PySem.sizeLine →
      lcL (bName i) C E [i] acc (xs.map g) env = .ok (.fr (.lst (acc ++ (xs.filter p).map f))) env := by
    intro xs
    induction xs with
    | nil => intro acc _ _ _; simp [lcL]
    | cons x xs ih =>
      intro acc hC hE hl
      have h1 : bName i (g x) env = .ok () (env.set i (.v (g x))) := if_pos (lt_of_get h)
      have h5 := hC x List.mem_cons_self
      rw [List.length_cons] at hl
      have h3 : acc.length < PySem.sizeLine := by omega
      have h4 : wipeE (env.set i (.v (g x))) [i] = env := by
        show (env.set i (.v (g x))).set i .non = env
        rw [set_set, set_self h]
      have hC' := fun x m => hC x (List.mem_cons_of_mem _ m)
      have hE' := fun x m => hE x (List.mem_cons_of_mem _ m)
      cases q : p x with
      | true =>
        have h2 := hE x List.mem_cons_self q
        rw [q] at h5
        have ih' := ih (acc ++ [f x]) hC' hE' (by rw [List.length_append]; simp; omega)
        simp only [List.map_cons, at_lc1, at_bind, at_nox, h1, at_ok, h5, if_true, h2, at_toTv, if_pos h3, h4, ih', List.append_assoc, List.cons_append, List.nil_append, List.filter_cons, q]
      | false =>
        rw [q] at h5
        have ih' := ih acc hC' hE' (by omega)
        simp only [List.map_cons, at_lc1, at_bind, at_nox, h1, at_ok, h5, Bool.false_eq_true, if_false, h4, ih', List.filter_cons, q]
  simpa using key xs [] hC hE (by simpa using hl)
/-- a comprehension that draws: the slots j and i, what is drawn from at j -/
theorem lc_draw {ι σ : Type} {i : Nat} {E : M Vw} (En : σ → Sls) (g : ι → T) (I : Nat → σ → Prop) (F : T → Prop) (h : ∀ s, (En s)[i]? = some .non) (n : Nat) :
    ∀ (xs : List ι) (acc : List T) (s : σ) (k : Nat), k + xs.length ≤ n → I k s → (∀ k s x, k < n → x ∈ xs → I k s → ∃ t s', E ((En s).set i (.v (g x))) = .ok (.v t) ((En s').set i (.v (g x))) ∧ F t ∧ I (k + 1) s') → acc.length + xs.length ≤ PySem.sizeLine →
    ∃ ts s', lcL (bName i) cYes E [i] acc (xs.map g) (En s) = .ok (.fr (.lst (acc ++ ts))) (En s') ∧ ts.length = xs.length ∧ (∀ t ∈ ts, F t) ∧ I (k + xs.length) s'
  | [], acc, s, k, _, hI, _, _ => ⟨[], s, by simp [lcL], rfl, (fun t h => by cases h), hI⟩
  | x :: xs, acc, s, k, hk, hI, hE, hl => by
    rw [List.length_cons] at hk hl
    obtain ⟨t, s1, e1, f1, i1⟩ := hE k s x (by omega) List.mem_cons_self hI
    obtain ⟨ts, s2, e2, l2, f2, i2⟩ := lc_draw En g I F h n xs (acc ++ [t]) s1 (k + 1) (by omega) i1 (fun k s x hk m hI => hE k s x hk (List.mem_cons_of_mem _ m) hI) (by rw [List.length_append]; simp; omega)
    refine ⟨t :: ts, s2, ?_, by simp [l2], fun u m => ?_, by rw [List.length_cons, ← Nat.add_assoc, Nat.add_right_comm]; exact i2⟩
    · have h1 : bName i (g x) (En s) = .ok () ((En s).set i (.v (g x))) := if_pos (lt_of_get (h s))
      have h3 : acc.length < PySem.sizeLine := by omega
      have h4 : wipeE ((En s1).set i (.v (g x))) [i] = En s1 := by
        show ((En s1).set i (.v (g x))).set i .non = En s1
        rw [set_set, set_self (h s1)]
      simp only [List.map_cons, at_lc1, at_bind, at_nox, h1, at_ok, at_yes, if_true, e1, at_toTv, if_pos h3, h4, e2, List.append_assoc, List.cons_append, List.nil_append]
    · rcases List.mem_cons.mp m with rfl | m
      · exact f1
      · exact f2 u m
/-- a while loop by a measure -/
theorem while_by {σ : Type} {C : M Bool} {B : MS} (E : σ → Sls) (P : σ → Prop) (meas : σ → Nat) (cond : σ → Bool) (step : σ → σ) (hC : ∀ s, P s → C (E s) = .ok (cond s) (E s)) (hB : ∀ s, P s → cond s = true → B (E s) = .ok .nx (E (step s)) ∧ P (step s) ∧ meas (step s) < meas s) :
    ∀ (n : Nat) (s : σ), meas s ≤ n → P s → ∃ s', mWhile C B (E s) = .ok .nx (E s') ∧ P s' ∧ cond s' = false := by
  have key : ∀ (n : Nat) (s : σ), meas s ≤ n → P s → ∃ s', whileN C B (n + 1) (E s) = .ok .nx (E s') ∧ P s' ∧ cond s' = false := by
    intro n
    induction n with
    | zero =>
      intro s hs p
      cases q : cond s with
      | false =>
        refine ⟨s, ?_, p, q⟩
        show R.bind (C (E s)) _ = _
        rw [hC s p, q]
        rfl
      | true =>
        obtain ⟨_, _, h⟩ := hB s p q
        omega
    | succ n ih =>
      intro s hs p
      cases q : cond s with
      | false =>
        refine ⟨s, ?_, p, q⟩
        show R.bind (C (E s)) _ = _
        rw [hC s p, q]
        rfl
      | true =>
        obtain ⟨h1, h2, h3⟩ := hB s p q
        obtain ⟨s', e, p', c'⟩ := ih (step s) (by omega) h2
        refine ⟨s', ?_, p', c'⟩
        show R.bind (C (E s)) _ = _
        rw [hC s p, q]
        show R.bind (B (E s)) _ = _
        rw [h1]
        exact e
  intro n s hs p
  obtain ⟨s', e, p', c'⟩ := key n s hs p
  exact ⟨s', by rw [mWhile_of (n := n + 1) (by rw [e]; exact fun z => z), e], p', c'⟩
/-! ### texts -/
theorem eq_str {x y : PySem.Str} (hx : PyData.strOk x = true) (hy : PyData.strOk y = true) : eqF (.str x) (.str y) = some (.v (.bool (x == y))) := by
  simp [eqF, eqT, T.pyO, SeqAt.shaped, PyData.canLay0, PyData.depth, PyData.eqv, hx, hy]
theorem in_str3 (w a b c : PySem.Str) : inF (.str w) (.tuple [.str a, .str b, .str c]) = some (.v (.bool (a == w || (b == w || c == w)))) := by
  simp [inF, seqT, inT, flatT, eqFT]
theorem in_str2 (w a b : PySem.Str) : inF (.str w) (.tuple [.str a, .str b]) = some (.v (.bool (a == w || b == w))) := by
  simp [inF, seqT, inT, flatT, eqFT]
/-! ### ints -/
theorem CPow_small {i j : Int} {k : Nat} (h : Bd k i) (h0 : 0 ≤ j) (hj : j ≤ 5) (hk : k ≤ 1000000) : powXF (.int i) (.int j) = some (.v (.int (i ^ j.toNat))) := by
  have hb := bits_of h
  refine if_pos ⟨h0, ?_⟩
  have h1 : ((Builtin.Int.intBits i : Nat) : Int) * j ≤ ((Builtin.Int.intBits i : Nat) : Int) * 5 := Int.mul_le_mul_of_nonneg_left hj (by omega)
  omega
theorem Bd.pow {k : Nat} {i : Int} (h : Bd k i) (n : Nat) : Bd (k * (n + 1)) (i ^ (n + 1)) := by
  induction n with
  | zero =>
    rw [Nat.zero_add, Nat.mul_one, Int.pow_succ, Int.pow_zero, Int.one_mul]
    exact h
  | succ n ih =>
    rw [Int.pow_succ, Nat.mul_succ]
    exact ih.mul h
theorem bd_fmod {n : Nat} (x m : Int) (h : 0 < m) (hb : Bd n m) : Bd n (x.fmod m) := by
  have h0 := Int.fmod_nonneg_of_pos x h
  have h1 := Int.fmod_lt_of_pos x h
  exact hb.of_le (by omega)
theorem bd_fdiv {n : Nat} {x : Int} (m : Int) (h : 0 < m) (hb : Bd n x) : Bd n (x.fdiv m) := by
  refine hb.of_le ?_
  rw [Int.fdiv_eq_ediv_of_nonneg _ (by omega)]
  exact Int.natAbs_ediv_le_natAbs _ _
theorem bd_of {n : Nat} {x m : Int} (hb : Bd n m) (h0 : -m ≤ x) (h1 : x ≤ m) : Bd n x := hb.of_le (by omega)
end Ev
end P_EvM

section P_EvF
set_option Elab.async false
set_option linter.all false
set_option maxRecDepth 100000
/-! EvF: fractions in lowest terms, plain. -/
namespace Ev
set_option autoImplicit false
theorem fmod_nat (x y : Nat) : (x : Int).fmod (y : Int) = ((x % y : Nat) : Int) := by
  rw [Int.fmod_eq_emod_of_nonneg _ (by omega)]
  rfl
def gI (a b : Int) : Int := (Nat.gcd a.natAbs b.natAbs : Nat)
def sg (b : Int) : Int := if b < 0 then -1 else 1
/-- in lowest terms -/
def lowP (a b : Int) : Int := (sg b * a).fdiv (gI a b)
def lowQ (a b : Int) : Int := (sg b * b).fdiv (gI a b)
theorem gI_ne {a b : Int} (h : b ≠ 0) : gI a b ≠ 0 := by
  unfold gI
  have := Nat.gcd_pos_of_pos_right a.natAbs (show 0 < b.natAbs by omega)
  omega
theorem gI_bd {a b : Int} {k : Nat} (h : b ≠ 0) (hb : Bd k b) : Bd k (gI a b) := by
  unfold gI
  refine hb.of_le ?_
  have := Nat.le_of_dvd (show 0 < b.natAbs by omega) (Nat.gcd_dvd_right a.natAbs b.natAbs)
  simpa using this
theorem sg_bd (b : Int) : Bd 1 (sg b) := by unfold sg; split <;> decide
theorem abs_nat (a : Int) : (if a < 0 then -a else a) = (a.natAbs : Int) := by split <;> omega
/-- a fraction in lowest terms -/
structure Red (k : Nat) (p q : Int) : Prop where
  pos : 1 ≤ q
  gcd : Nat.gcd p.natAbs q.natAbs = 1
  bp : Bd k p
  bq : Bd k q
theorem nat_gcd_div {a b : Nat} (h : 0 < b) : Nat.gcd (a / Nat.gcd a b) (b / Nat.gcd a b) = 1 := by
  have := Nat.gcd_pos_of_pos_right a h
  rw [Nat.gcd_div (Nat.gcd_dvd_left a b) (Nat.gcd_dvd_right a b), Nat.div_self this]
theorem fdiv_abs {x : Int} {g : Nat} (hg : 0 < g) (hd : g ∣ x.natAbs) : (x.fdiv (g : Int)).natAbs = x.natAbs / g := by
  obtain ⟨k, hk⟩ := hd
  have hx : x = (g : Int) * k ∨ x = -((g : Int) * k) := by
    rcases Int.natAbs_eq x with e | e
    · left; rw [e, hk]; simp
    · right; rw [e, hk]; simp
  have g0 : (g : Int) ≠ 0 := by omega
  have q : (g * k) / g = k := Nat.mul_div_cancel_left k hg
  rw [hk, q]
  rcases hx with e | e
  · rw [e, Int.mul_fdiv_cancel_left _ g0]; rfl
  · have e2 : x = (g : Int) * (-k) := by rw [e, Int.mul_neg]
    rw [e2, Int.mul_fdiv_cancel_left _ g0]; simp
theorem sg_abs (b x : Int) : (sg b * x).natAbs = x.natAbs := by
  unfold sg
  split
  · rw [Int.natAbs_mul]; simp
  · rw [Int.one_mul]
theorem low_red {k : Nat} {a b : Int} (hb : b ≠ 0) (ba : Bd k a) (bb : Bd k b) : Red k (lowP a b) (lowQ a b) := by
  have h0 : 0 < b.natAbs := by omega
  have hg := Nat.gcd_pos_of_pos_right a.natAbs h0
  have e1 : (lowP a b).natAbs = a.natAbs / Nat.gcd a.natAbs b.natAbs := by
    unfold lowP gI
    rw [fdiv_abs hg (by rw [sg_abs]; exact Nat.gcd_dvd_left _ _), sg_abs]
  have e2 : (lowQ a b).natAbs = b.natAbs / Nat.gcd a.natAbs b.natAbs := by
    unfold lowQ gI
    rw [fdiv_abs hg (by rw [sg_abs]; exact Nat.gcd_dvd_right _ _), sg_abs]
  refine ⟨?_, by rw [e1, e2]; exact nat_gcd_div h0, ?_, ?_⟩
  · have p : 0 < sg b * b := by
      unfold sg
      split <;> omega
    have g0 : (0 : Int) < gI a b := by unfold gI; omega
    have n0 : 0 ≤ lowQ a b := by
      unfold lowQ
      rw [Int.fdiv_eq_ediv_of_nonneg _ (by omega)]
      exact Int.ediv_nonneg (by omega) (by omega)
    have n1 : 0 < (lowQ a b).natAbs := by
      rw [e2]
      exact Nat.div_pos (Nat.le_of_dvd h0 (Nat.gcd_dvd_right _ _)) hg
    omega
  · exact ba.of_le (by rw [e1]; exact Nat.div_le_self _ _)
  · exact bb.of_le (by rw [e2]; exact Nat.div_le_self _ _)
theorem gI_neg (a b : Int) : gI (-a) (-b) = gI a b := by unfold gI; rw [Int.natAbs_neg, Int.natAbs_neg]
theorem Red.mono {j k : Nat} {p q : Int} (h : Red j p q) (l : j ≤ k) : Red k p q := ⟨h.pos, h.gcd, h.bp.mono l, h.bq.mono l⟩
/-- a pair -/
abbrev fr (p q : Int) : T := .tuple [.int p, .int q]
theorem ix0 (a b : T) : ixF (.tuple [a, b]) (.int 0) = some (.v a) := id rfl
theorem ix1 (a b : T) : ixF (.tuple [a, b]) (.int 1) = some (.v b) := id rfl
theorem low_pos {a b : Int} (h : 0 < b) : lowP a b = a.fdiv (gI a b) ∧ lowQ a b = b.fdiv (gI a b) := by
  have : ¬ b < 0 := by omega
  simp only [lowP, lowQ, sg, this, if_false, Int.one_mul, and_self]
/-- the fraction is the quotient -/
theorem low_cross {a b : Int} (hb : b ≠ 0) : lowP a b * b = lowQ a b * a := by
  have d1 : gI a b ∣ sg b * a := by
    refine Int.dvd_trans ?_ (Int.dvd_mul_left _ _)
    unfold gI
    exact Int.ofNat_dvd_left.mpr (Nat.gcd_dvd_left _ _)
  have d2 : gI a b ∣ sg b * b := by
    refine Int.dvd_trans ?_ (Int.dvd_mul_left _ _)
    unfold gI
    exact Int.ofNat_dvd_left.mpr (Nat.gcd_dvd_right _ _)
  have g := gI_ne (a := a) hb
  have e1 : lowP a b * gI a b = sg b * a := Int.fdiv_mul_cancel d1
  have e2 : lowQ a b * gI a b = sg b * b := Int.fdiv_mul_cancel d2
  apply Int.eq_of_mul_eq_mul_right g
  calc lowP a b * b * gI a b = (lowP a b * gI a b) * b := by rw [Int.mul_assoc, Int.mul_comm b, ← Int.mul_assoc]
    _ = sg b * a * b := by rw [e1]
    _ = (sg b * b) * a := by rw [Int.mul_assoc, Int.mul_comm a, ← Int.mul_assoc]
    _ = (lowQ a b * gI a b) * a := by rw [e2]
    _ = lowQ a b * a * gI a b := by rw [Int.mul_assoc, Int.mul_comm (gI a b), ← Int.mul_assoc]
end Ev
end P_EvF

section P_EvN
set_option Elab.async false
set_option linter.all false
set_option maxRecDepth 100000
/-! EvN: two-clause comprehensions by folds; sets of small ints; slices of short tuples. -/
namespace Ev
open PySem L2 PySem.Spec
open PyProof.Rows hiding St
set_option autoImplicit false
section
variable {ι κ σ : Type} {L : Ob → M Ob} {i j : Nat} {env : Sls}
theorem at_lc2 (S : M (List T)) (b : T → M Unit) (C : M Bool) (S1 : M (List T)) (b1 : T → M Unit) (C1 : M Bool) (ns ns1 : List Nat) (o : Ob) (e : Sls) :
    mLc2 S b C S1 b1 C1 L ns ns1 o e = (S e).bind fun ts e => if clear e ns then (lc2out b C S1 b1 C1 L ns ns1 o ts e).bind fun o e => .ok (.fr o) e else .no := id rfl
theorem lc2in_fold (h : env[j]? = some .non) (O : σ → Ob) (g : ι → T) (step : σ → ι → σ) (P : σ → Prop) : ∀ (us : List ι) (o : σ), P o → (∀ o u, u ∈ us → P o → L (O o) (env.set j (.v (g u))) = .ok (O (step o u)) (env.set j (.v (g u))) ∧ P (step o u)) →
    lc2in (bName j) cYes L [j] (O o) (us.map g) env = .ok (O (us.foldl step o)) env ∧ P (us.foldl step o)
  | [], o, p, _ => ⟨rfl, p⟩
  | u :: us, o, p, H => by
    obtain ⟨h1, p1⟩ := H o u List.mem_cons_self p
    obtain ⟨h2, p2⟩ := lc2in_fold h O g step P us (step o u) p1 fun o v m => H o v (List.mem_cons_of_mem _ m)
    refine ⟨?_, p2⟩
    have hb : bName j (g u) env = .ok () (env.set j (.v (g u))) := if_pos (lt_of_get h)
    have h4 : wipeE (env.set j (.v (g u))) [j] = env := by
      show (env.set j (.v (g u))).set j .non = env
      rw [set_set, set_self h]
    rw [List.map_cons, List.foldl_cons]
    simp only [lc2in, at_bind, at_nox, hb, at_ok, at_yes, if_true, h1, h4, h2]
theorem lc2out_fold (h : env[i]? = some .non) (hj : env[j]? = some .non) (ij : i ≠ j) (S1 : M (List T)) (O : σ → Ob) (g : κ → T) (G : κ → List T) (step : σ → κ → σ) (P : σ → Prop) : ∀ (ks : List κ) (o : σ), P o →
    (∀ o k, k ∈ ks → P o → S1 (env.set i (.v (g k))) = .ok (G k) (env.set i (.v (g k))) ∧ lc2in (bName j) cYes L [j] (O o) (G k) (env.set i (.v (g k))) = .ok (O (step o k)) (env.set i (.v (g k))) ∧ P (step o k)) →
    lc2out (bName i) cYes S1 (bName j) cYes L [i, j] [j] (O o) (ks.map g) env = .ok (O (ks.foldl step o)) env ∧ P (ks.foldl step o)
  | [], o, p, _ => ⟨rfl, p⟩
  | k :: ks, o, p, H => by
    obtain ⟨h1, h3, p1⟩ := H o k List.mem_cons_self p
    obtain ⟨h2, p2⟩ := lc2out_fold h hj ij S1 O g G step P ks (step o k) p1 fun o v m => H o v (List.mem_cons_of_mem _ m)
    refine ⟨?_, p2⟩
    have hb : bName i (g k) env = .ok () (env.set i (.v (g k))) := if_pos (lt_of_get h)
    have hj' : (env.set i (.v (g k)))[j]? = some .non := by rw [List.getElem?_set_ne ij]; exact hj
    have h4 : wipeE (env.set i (.v (g k))) [j] = env.set i (.v (g k)) := by
      show (env.set i (.v (g k))).set j .non = env.set i (.v (g k))
      exact set_self hj'
    have h5 : wipeE (env.set i (.v (g k))) [i, j] = env := by
      show ((env.set i (.v (g k))).set j .non).set i .non = env
      rw [set_self hj', set_set, set_self h]
    rw [List.map_cons, List.foldl_cons]
    simp only [lc2out, at_bind, at_nox, hb, at_ok, at_yes, if_true, h1, h3, h4, h5, h2]
end
/-! ### a dict as a set of ints -/
def addK (ks : List Int) (i : Int) : List Int := if i ∈ ks then ks else ks ++ [i]
def dk (ks : List Int) : List (Key × T) := ks.map fun i => (.inl i, .bool true)
def KOk (ks : List Int) : Prop := ks.Nodup ∧ ∀ i ∈ ks, 0 ≤ i ∧ i < 3
theorem any_dk (ks : List Int) (i : Int) : ((dk ks).any fun kv => decide (kv.1 = .inl i)) = decide (i ∈ ks) := by
  unfold dk
  rw [List.any_map, Bool.eq_iff_iff]
  simp
theorem map_dk (i : Int) : ∀ ks : List Int, (dk ks).map (fun kv => if kv.1 = .inl i then (kv.1, T.bool true) else kv) = dk ks
  | [] => rfl
  | k :: ks => by
    have := map_dk i ks
    unfold dk at *
    rw [List.map_cons, List.map_cons, this]
    split <;> rfl
theorem putKT_dk (ks : List Int) (i : Int) : putKT (dk ks) (.inl i) (.bool true) = dk (addK ks i) := by
  unfold addK putKT
  rw [any_dk]
  by_cases h : i ∈ ks
  · rw [if_pos (by simpa using h), if_pos h, map_dk]
  · rw [if_neg (by simpa using h), if_neg h]
    simp [dk]
theorem dk_len (ks : List Int) : (dk ks).length = ks.length := by simp [dk]
theorem addK_ok {ks : List Int} {i : Int} (h : KOk ks) (h0 : 0 ≤ i) (h1 : i < 3) : KOk (addK ks i) := by
  unfold addK
  split
  · exact h
  · rename_i n
    refine ⟨List.nodup_append.mpr ⟨h.1, by simp, fun a ha b hb e => ?_⟩, fun a ha => ?_⟩
    · rw [List.mem_singleton] at hb
      exact n (by rw [← hb, ← e]; exact ha)
    · rcases List.mem_append.mp ha with m | m
      · exact h.2 a m
      · rw [List.mem_singleton] at m; subst m; exact ⟨h0, h1⟩
theorem mem_addK {ks : List Int} {i j : Int} : j ∈ addK ks i ↔ j ∈ ks ∨ j = i := by
  unfold addK
  split
  · rename_i h
    exact ⟨.inl, fun z => z.elim id fun e => e ▸ h⟩
  · simp
theorem mem_addKs {us : List Int} : ∀ {ks : List Int} {j : Int}, j ∈ us.foldl addK ks ↔ j ∈ ks ∨ j ∈ us := by
  induction us with
  | nil => intro ks j; simp
  | cons u us ih => intro ks j; rw [List.foldl_cons, ih, mem_addK, List.mem_cons, or_assoc]
/-- the ascending list of those that a test takes -/
def asc (f : Int → Bool) : List Int := ([0, 1, 2] : List Int).filter f
theorem mem_asc {f : Int → Bool} {i : Int} : i ∈ asc f ↔ (0 ≤ i ∧ i < 3) ∧ f i = true := by
  unfold asc
  rw [List.mem_filter]
  have : (i ∈ ([0, 1, 2] : List Int)) ↔ (0 ≤ i ∧ i < 3) := by
    simp only [List.mem_cons, List.not_mem_nil, or_false]; omega
  rw [this]
theorem asc_nodup (f : Int → Bool) : (asc f).Nodup := List.Pairwise.filter _ (by decide : ([0, 1, 2] : List Int).Nodup)
theorem asc_ok (f : Int → Bool) : KOk (asc f) := ⟨asc_nodup f, fun i m => (mem_asc.mp m).1⟩
theorem asc_le (f : Int → Bool) : (asc f).Pairwise (· ≤ ·) := List.Pairwise.filter _ (by decide)
theorem asc_len (f : Int → Bool) : (asc f).length ≤ 3 := List.length_filter_le f [0, 1, 2]
theorem sort_asc {ks : List Int} (h : KOk ks) {f : Int → Bool} (hf : ∀ i, 0 ≤ i → i < 3 → (f i = true ↔ i ∈ ks)) : sortI ks = asc f := by
  refine (sortI_eq ?_ (asc_le f)).symm
  refine (List.perm_ext_iff_of_nodup (asc_nodup f) h.1).mpr fun i => ?_
  rw [mem_asc]
  exact ⟨fun ⟨⟨a, b⟩, c⟩ => (hf i a b).mp c, fun m => ⟨h.2 i m, (hf i (h.2 i m).1 (h.2 i m).2).mpr m⟩⟩
theorem KOk.len {ks : List Int} (h : KOk ks) : ks.length ≤ 3 := by
  have e := sort_asc h (f := fun i => decide (i ∈ ks)) fun i _ _ => by simp
  have l := asc_len fun i => decide (i ∈ ks)
  rw [← e, (sortI_perm ks).length_eq] at l
  exact l
theorem intKs_dk : ∀ ks : List Int, intKs ((dk ks).map fun p => (keyT p.1, p.2)) = some ks
  | [] => rfl
  | k :: ks => by
    have := intKs_dk ks
    show (intKs ((dk ks).map fun p => (keyT p.1, p.2))).map (fun l => k :: l) = _
    rw [this]; rfl
theorem drop_dk (i : Int) : ∀ ks : List Int, dropKT (dk ks) (.inl i) = dk (ks.filter fun k => decide (k ≠ i))
  | [] => rfl
  | k :: ks => by
    have := drop_dk i ks
    unfold dk dropKT at *
    by_cases e : k = i
    · subst e
      rw [List.map_cons, List.filter_cons_of_neg (by simp), List.filter_cons_of_neg (by simp)]
      exact this
    · rw [List.map_cons, List.filter_cons_of_pos (by simpa using e), List.filter_cons_of_pos (by simpa using e), List.map_cons, this]
theorem pop_dk (i : Int) (ks : List Int) : popKF [.int i, .none] (.dct (dk ks)) = some (.dct (dk (ks.filter fun k => decide (k ≠ i))), match findK (dk ks) (.inl i) with | some t => t | none => .none) := by
  have hn : ∀ ks : List Int, findK (dk ks) (.inl i) = none → ks.filter (fun k => decide (k ≠ i)) = ks := by
    intro ks
    induction ks with
    | nil => intro _; rfl
    | cons k ks ih =>
      intro h
      have h' : (if (Sum.inl k : Key) = .inl i then some (T.bool true) else findK (dk ks) (.inl i)) = none := h
      by_cases e : k = i
      · subst e; rw [if_pos rfl] at h'; cases h'
      · rw [if_neg (fun z => e (Sum.inl.inj z))] at h'
        rw [List.filter_cons_of_pos (by simpa using e), ih h']
  unfold popKF
  show some (match findK (dk ks) (.inl i) with | some t => (Ob.dct (dropKT (dk ks) (.inl i)), t) | none => (.dct (dk ks), .none)) = _
  cases q : findK (dk ks) (.inl i) with
  | some t => rw [drop_dk]
  | none => rw [hn ks q]
/-! ### slices of short tuples -/
theorem cut2_1 (a b : T) : cutT [a, b] (some 1) none = [b] := id rfl
theorem cut3_1 (a b c : T) : cutT [a, b, c] (some 1) none = [b, c] := id rfl
theorem cut3_2 (a b c : T) : cutT [a, b, c] (some 2) none = [c] := id rfl
theorem cut2_12 (a b : T) : cutT [a, b] (some 1) (some 2) = [b] := id rfl
theorem cut4_12 (a b c d : T) : cutT [a, b, c, d] (some 1) (some 2) = [b] := id rfl
theorem ix20 (a b : T) : ixF (.tuple [a, b]) (.int 0) = some (.v a) := id rfl
theorem ix21 (a b : T) : ixF (.tuple [a, b]) (.int 1) = some (.v b) := id rfl
theorem ix30 (a b c : T) : ixF (.tuple [a, b, c]) (.int 0) = some (.v a) := id rfl
theorem ix31 (a b c : T) : ixF (.tuple [a, b, c]) (.int 1) = some (.v b) := id rfl
theorem ix32 (a b c : T) : ixF (.tuple [a, b, c]) (.int 2) = some (.v c) := id rfl
theorem ix40 (a b c d : T) : ixF (.tuple [a, b, c, d]) (.int 0) = some (.v a) := id rfl
theorem ix41 (a b c d : T) : ixF (.tuple [a, b, c, d]) (.int 1) = some (.v b) := id rfl
theorem ix42 (a b c d : T) : ixF (.tuple [a, b, c, d]) (.int 2) = some (.v c) := id rfl
theorem ix43 (a b c d : T) : ixF (.tuple [a, b, c, d]) (.int 3) = some (.v d) := id rfl
theorem lix20 (a b : T) : ixF (.list [a, b]) (.int 0) = some (.v a) := id rfl
theorem lix21 (a b : T) : ixF (.list [a, b]) (.int 1) = some (.v b) := id rfl
theorem lix30 (a b c : T) : ixF (.list [a, b, c]) (.int 0) = some (.v a) := id rfl
theorem lix31 (a b c : T) : ixF (.list [a, b, c]) (.int 1) = some (.v b) := id rfl
theorem lix32 (a b c : T) : ixF (.list [a, b, c]) (.int 2) = some (.v c) := id rfl
theorem lix10 (a : T) : ixF (.list [a]) (.int 0) = some (.v a) := id rfl
theorem rng3 : rngTs 0 3 = [T.int 0, T.int 1, T.int 2] := id rfl
/-! ### lists put together -/
section
variable {κ : Type} {i j : Nat} {env : Sls}
theorem lc2in_list (h : env[j]? = some .non) : ∀ (us acc : List T), acc.length + us.length ≤ PySem.sizeLine → lc2in (bName j) cYes (leafL (mVar j)) [j] (.lst acc) us env = .ok (.lst (acc ++ us)) env
  | [], acc, _ => by simp [lc2in]
  | u :: us, acc, hl => by
    rw [List.length_cons] at hl
    have hb : bName j u env = .ok () (env.set j (.v u)) := if_pos (lt_of_get h)
    have h4 : wipeE (env.set j (.v u)) [j] = env := by
      show (env.set j (.v u)).set j .non = env
      rw [set_set, set_self h]
    have hv : mVar j (env.set j (.v u)) = .ok (.v u) (env.set j (.v u)) := by
      unfold mVar
      rw [List.getElem?_set_self (lt_of_get h)]
    have hL : leafL (mVar j) (.lst acc) (env.set j (.v u)) = .ok (.lst (acc ++ [u])) (env.set j (.v u)) := by
      unfold leafL
      rw [at_bind, hv, at_ok, at_bind, at_toTv, at_ok]
      exact if_pos (by omega)
    have ih := lc2in_list h us (acc ++ [u]) (by rw [List.length_append]; simp; omega)
    simp only [lc2in, at_bind, at_nox, hb, at_ok, at_yes, if_true, hL, h4, ih, List.append_assoc, List.cons_append, List.nil_append]
theorem lc2out_list (h : env[i]? = some .non) (hj : env[j]? = some .non) (ij : i ≠ j) (S1 : M (List T)) (g : κ → T) (G : κ → List T) : ∀ (ks : List κ) (acc : List T), (∀ k ∈ ks, S1 (env.set i (.v (g k))) = .ok (G k) (env.set i (.v (g k)))) → acc.length + (ks.flatMap G).length ≤ PySem.sizeLine →
    lc2out (bName i) cYes S1 (bName j) cYes (leafL (mVar j)) [i, j] [j] (.lst acc) (ks.map g) env = .ok (.lst (acc ++ ks.flatMap G)) env
  | [], acc, _, _ => by simp [lc2out]
  | k :: ks, acc, H, hl => by
    rw [List.flatMap_cons, List.length_append] at hl
    have hb : bName i (g k) env = .ok () (env.set i (.v (g k))) := if_pos (lt_of_get h)
    have hj' : (env.set i (.v (g k)))[j]? = some .non := by rw [List.getElem?_set_ne ij]; exact hj
    have h4 : wipeE (env.set i (.v (g k))) [j] = env.set i (.v (g k)) := by
      show (env.set i (.v (g k))).set j .non = env.set i (.v (g k))
      exact set_self hj'
    have h5 : wipeE (env.set i (.v (g k))) [i, j] = env := by
      show ((env.set i (.v (g k))).set j .non).set i .non = env
      rw [set_self hj', set_set, set_self h]
    have h1 := H k List.mem_cons_self
    have h3 := lc2in_list hj' (G k) acc (by omega)
    have ih := lc2out_list h hj ij S1 g G ks (acc ++ G k) (fun k m => H k (List.mem_cons_of_mem _ m)) (by rw [List.length_append]; omega)
    rw [List.map_cons, List.flatMap_cons]
    simp only [lc2out, at_bind, at_nox, hb, at_ok, at_yes, if_true, h1, h3, h4, h5, ih, List.append_assoc]
end
/-- a loop that carries a state, counted -/
theorem for_foldI {σ ι : Type} {b : T → M Unit} {S : MS} (E : σ → Sls) (g : ι → T) (step : σ → ι → σ) (n : Nat) (P : Nat → σ → Prop) : ∀ (xs : List ι) (k : Nat) (s : σ), k + xs.length ≤ n → P k s → (∀ k s, k < n → P k s → ∀ x ∈ xs, ((b (g x) (E s)).bind fun _ => S) = .ok .nx (E (step s x)) ∧ P (k + 1) (step s x)) →
    forL b S (xs.map g) (E s) = .ok .nx (E (xs.foldl step s)) ∧ P (k + xs.length) (xs.foldl step s)
  | [], k, s, _, p, _ => ⟨rfl, p⟩
  | x :: xs, k, s, hk, p, h => by
    rw [List.length_cons] at hk
    obtain ⟨h1, p1⟩ := h k s (by omega) p x List.mem_cons_self
    obtain ⟨h2, p2⟩ := for_foldI E g step n P xs (k + 1) (step s x) (by omega) p1 fun k s l p x m => h k s l p x (List.mem_cons_of_mem _ m)
    refine ⟨?_, by rw [List.length_cons, ← Nat.add_assoc, Nat.add_right_comm]; exact p2⟩
    rw [List.map_cons, at_for1]
    cases q : b (g x) (E s) with
    | no => rw [q] at h1; cases h1
    | er y w => rw [q] at h1; cases h1
    | ok a y =>
      rw [q] at h1
      show R.bind (S y) _ = _
      rw [show S y = .ok .nx (E (step s x)) from h1]
      exact h2
/-! ### the set as an object -/
def dkO (ks : List Int) : Ob := .dct (dk ks)
theorem dkO_ty (ks : List Int) : obT (dkO ks) = "dict" := id rfl
theorem dkO_lift (f : Ob → Option (Ob × T)) (ks : List Int) : lift f (dkO ks) = f (dkO ks) := id rfl
theorem dkO_pop (i : Int) (ks : List Int) : popKF [.int i, .none] (dkO ks) = some (dkO (ks.filter fun k => decide (k ≠ i)), match findK (dk ks) (.inl i) with | some t => t | none => .none) := pop_dk i ks
def dkT (ks : List Int) : List (T × T) := (dk ks).map fun p => (keyT p.1, p.2)
theorem dkO_data (ks : List Int) : (dkO ks).data = .dict (dkT ks) := id rfl
theorem dkO_sort {ks : List Int} (h : KOk ks) : sortedAF [.dict (dkT ks)] = some (.fr (.lst ((sortI ks).map .int))) := by
  show (match intKs (dkT ks) with | some ns => if ns.length < 64 then some (Vw.fr (.lst ((sortI ns).map T.int))) else none | none => none) = _
  unfold dkT
  rw [intKs_dk]
  have := h.len
  exact if_pos (by omega)
theorem leaf_dk {j : Nat} {e : Sls} {ks : List Int} {i : Int} (h : e[j]? = some (.v (.int i))) (hk : KOk ks) : leafD (mVar j) (mK (.bool true)) (dkO ks) e = .ok (dkO (addK ks i)) e := by
  have hv : mVar j e = .ok (.v (.int i)) e := by unfold mVar; rw [h]
  unfold leafD
  rw [at_bind, hv, at_ok, at_bind, at_toTv, at_ok, at_bind, at_k, at_ok, at_bind, at_toTv, at_ok]
  show (if (dk ks).length < PySem.sizeLine then R.ok (Ob.dct (putKT (dk ks) (.inl i) (.bool true))) e else .no) = _
  rw [if_pos (by rw [dk_len]; have := hk.len; have : (4 : Nat) ≤ PySem.sizeLine := by decide
                 omega), putKT_dk]
  rfl
/-! ### fractions by keys -/
def gT (g : Int → Int × Int) (i : Int) : T := .tuple [.int (g i).1, .int (g i).2]
def gv (ks : List Int) (g : Int → Int × Int) : List (T × T) := ks.map fun i => (.int i, gT g i)
def gvO (ks : List Int) (g : Int → Int × Int) : Ob := .dct (ks.map fun i => (.inl i, gT g i))
theorem gvO_data (ks : List Int) (g : Int → Int × Int) : (gvO ks g).data = .dict (gv ks g) := by
  unfold gvO gv Ob.data
  simp [keyT]
theorem gv_items (ks : List Int) (g : Int → Int × Int) : itemTs (gv ks g) = ks.map fun i => .tuple [.int i, gT g i] := by
  unfold itemTs gv
  simp
theorem gv_get (g : Int → Int × Int) (i : Int) : ∀ ks : List Int, i ∈ ks → findT (gv ks g) (.inl i) = some (gT g i)
  | k :: ks, h => by
    show (if toKey (.int k) = some (.inl i) then some (gT g k) else findT (gv ks g) (.inl i)) = _
    by_cases e : k = i
    · subst e; exact if_pos rfl
    · rw [if_neg (fun z => by cases z; exact e rfl)]
      exact gv_get g i ks ((List.mem_cons.mp h).resolve_left fun z => e z.symm)
theorem gv_dget {ks : List Int} {g : Int → Int × Int} {i : Int} (h : i ∈ ks) : dgetF (.dict (gv ks g)) (.int i) = some (.v (gT g i)) := by
  show (findT (gv ks g) (.inl i)).map Vw.v = _
  rw [gv_get g i ks h]; rfl
theorem keys_ints : ∀ ks : List Int, keysOf (ks.map T.int) = some (ks.map Sum.inl)
  | [] => rfl
  | k :: ks => by simp [keysOf, toKey, keys_ints ks]
theorem merge_ks (g : Int → Int × Int) : ∀ (ks : List Int) (acc : List (Key × T)), ks.Nodup → (∀ i ∈ ks, (acc.any fun kv => decide (kv.1 = .inl i)) = false) → mergeT acc ((ks.map Sum.inl).zip (ks.map (gT g))) = acc ++ ks.map fun i => (.inl i, gT g i)
  | [], acc, _, _ => by simp [mergeT]
  | k :: ks, acc, hn, h => by
    have h1 := h k List.mem_cons_self
    have hn' := List.nodup_cons.mp hn
    have e : mergeT acc (((k :: ks).map Sum.inl).zip ((k :: ks).map (gT g))) = mergeT (putKT acc (.inl k) (gT g k)) ((ks.map Sum.inl).zip (ks.map (gT g))) := rfl
    have e2 : putKT acc (.inl k) (gT g k) = acc ++ [(.inl k, gT g k)] := by
      unfold putKT
      rw [if_neg (by rw [h1]; simp)]
    rw [e, e2, merge_ks g ks _ hn'.2 fun i m => by
      rw [List.any_append, h i (List.mem_cons_of_mem _ m)]
      have : k ≠ i := fun z => hn'.1 (z ▸ m)
      simp [this]]
    simp
theorem dzip_ok {A : M (List Vw)} {e : Sls} {ks : List Int} {g : Int → Int × Int} (hn : ks.Nodup) (h : A e = .ok [.v (.tuple (ks.map .int)), .v (.tuple (ks.map (gT g)))] e) : mDZip A e = .ok (.fr (gvO ks g)) e := by
  unfold mDZip
  rw [at_bind, h, at_ok]
  simp only [at_bind, at_toTs1, at_toTs0, at_toTv, at_ok, keys_ints]
  rw [if_pos (by simp), merge_ks g ks [] hn (fun _ _ => rfl)]
  rfl
theorem all_map {ι : Type} (b : ι → Bool) (xs : List ι) : allF [.list (xs.map fun x => .bool (b x))] = some (.v (.bool (xs.all b))) := by
  have : ∀ xs : List ι, boolsOf (xs.map fun x => T.bool (b x)) = some (xs.map b) := by
    intro xs
    induction xs with
    | nil => rfl
    | cons x xs ih => simp [boolsOf, ih]
  simp only [allF, this, Option.map_some]
  congr 3
  simp [List.all_map]
theorem for_invM {b : T → M Unit} {S : MS} {n : Nat} {ts0 : List T} (P : Nat → Sls → Prop) (h : ∀ (i : Nat) (t : T) (e : Sls), i < n → t ∈ ts0 → P i e → ∃ e1, ((b t e).bind fun _ => S) = .ok .nx e1 ∧ P (i + 1) e1) : ∀ (ts : List T) (i : Nat) (e : Sls), (∀ t ∈ ts, t ∈ ts0) → i + ts.length ≤ n → P i e → ∃ e', forL b S ts e = .ok .nx e' ∧ P (i + ts.length) e'
  | [], i, e, _, _, p => ⟨e, rfl, p⟩
  | t :: ts, i, e, m, l, p => by
    rw [List.length_cons] at l
    obtain ⟨e1, h1, p1⟩ := h i t e (by omega) (m t List.mem_cons_self) p
    obtain ⟨e2, h2, p2⟩ := for_invM P h ts (i + 1) e1 (fun t' m' => m t' (List.mem_cons_of_mem _ m')) (by omega) p1
    refine ⟨e2, ?_, by rw [List.length_cons, ← Nat.add_assoc, Nat.add_right_comm]; exact p2⟩
    rw [at_for1]
    cases q : b t e with
    | no => rw [q] at h1; cases h1
    | er x y => rw [q] at h1; cases h1
    | ok a y =>
      rw [q] at h1
      show R.bind (S y) _ = _
      rw [show S y = .ok .nx e1 from h1]
      exact h2
theorem seq_ok {A B : MS} {e e1 : Sls} (h : A e = .ok .nx e1) : mSeq A B e = B e1 := by rw [at_seq, h]; rfl
theorem rev_ok (ts : List T) : revF (.list ts) = some (.fr (.lst ts.reverse)) := id rfl
end Ev
end P_EvN

noncomputable section P_Code_LA
set_option linter.all false
set_option maxRecDepth 100000
/-! Code that laws share; printed by gen.py. -/
namespace LA
open Ev

def cd__law_begin (cf : CF) : MS :=
    (mSeq (mSet 2 (mOp addF (mOp addF (mK (.int 1013904223)) (mOp mulF (mK (.int 69069)) (mVar 1))) (mB lenF (mCons (mVar 0) mNil))))
    (mSeq (mFor (sVal (mSl (mVar 0) (mPo none) (mPo (some (mK (.int 200)))))) (bName 3) (mSet 2 (mOp modF (mB intF (mCons (mOp addF (mOp addF (mOp mulF (mVar 2) (mK (.int 6364136223846793005))) (mOp mulF (mVar 3) (mK (.int 2862933555777941757)))) (mK (.int 3037000493))) mNil)) (mK (.int 618970019642690137449562111)))))
    (mSeq (mSet 3 (mIf (mTest (mOp ltF (mVar 1) (mB lenF (mCons (mVar 0) mNil)))) (mB intF (mCons (mOp ixF (mVar 0) (mVar 1)) mNil)) (mK (.int 0))))
    (mRet (mLst (mCons (mB max2F (mCons (mK (.int 0)) (mCons (mOp subF (mB absF (mCons (mVar 3) mNil)) (mOp powXF (mK (.int 10)) (mK (.int 18)))) mNil))) (mCons (mVar 2) (mCons (mK (.int 0)) mNil))))))))
def fn__law_begin : Fn := { ps := ["script", "place"], n := 4, body := cd__law_begin, kws := [] }
def cd__law_pick (cf : CF) : MS :=
    (mSeq (mIfS (mTest (mOp gtF (mOp ixF (mVar 0) (mK (.int 0))) (mK (.int 0)))) (mSeq (mSet 2 (mOp modF (mB intF (mCons (mOp ixF (mVar 0) (mK (.int 0))) mNil)) (mVar 1)))
    (mSeq (mStore 0 "list" (mK (.int 0)) (mOp fdivF (mOp ixF (mVar 0) (mK (.int 0))) (mVar 1)) setLF)
    (mRet (mVar 2)))) mPass)
    (mSeq (mStore 0 "list" (mK (.int 2)) (mOp addF (mOp ixF (mVar 0) (mK (.int 2))) (mK (.int 1))) setLF)
    (mSeq (mSet 3 (mOp modF (mB intF (mCons (mOp addF (mOp powXF (mOp addF (mOp ixF (mVar 0) (mK (.int 1))) (mOp mulF (mK (.int 3935559000370003845)) (mOp ixF (mVar 0) (mK (.int 2))))) (mK (.int 3))) (mOp ixF (mVar 0) (mK (.int 2)))) mNil)) (mK (.int 618970019642690137449562111))))
    (mSeq (mSet 3 (mOp modF (mB intF (mCons (mOp addF (mOp addF (mOp powXF (mVar 3) (mK (.int 3))) (mOp ixF (mVar 0) (mK (.int 1)))) (mK (.int 2691343689449507681))) mNil)) (mK (.int 162259276829213363391578010288127))))
    (mRet (mOp modF (mB intF (mCons (mOp fdivF (mVar 3) (mK (.int 1000003))) mNil)) (mVar 1)))))))
def fn__law_pick : Fn := { ps := ["source", "many"], n := 4, body := cd__law_pick, kws := [] }
def cd__law_same (cf : CF) : MS :=
    (mSeq (mIfS (mTest (mOp isF (mVar 1) (mK .none))) (mRet (mOp isF (mVar 0) (mK .none))) mPass)
    (mSeq (mIfS (mTest (mIsi .bool (mVar 1))) (mRet (mAndV (mIsi .bool (mVar 0)) (mOp eqF (mVar 0) (mVar 1)))) mPass)
    (mSeq (mIfS (mTest (mIsi .int (mVar 1))) (mRet (mAndV (mIsi .int (mVar 0)) (mAndV (mNotV (mIsi .bool (mVar 0))) (mOp eqF (mVar 0) (mVar 1))))) mPass)
    (mSeq (mIfS (mTest (mIsi .str (mVar 1))) (mRet (mAndV (mIsi .str (mVar 0)) (mOp eqF (mVar 0) (mVar 1)))) mPass)
    (mSeq (mIfS (mOrT (mTest (mOp neF (mIsi .tuple (mVar 1)) (mIsi .tuple (mVar 0)))) (mTest (mOp neF (mIsi .list (mVar 1)) (mIsi .list (mVar 0))))) (mRet (mK (.bool false))) mPass)
    (mRet (mAndV (mOp eqF (mB lenF (mCons (mVar 0) mNil)) (mB lenF (mCons (mVar 1) mNil))) (mB allF (mCons (mLc (sRng1 (mCons (mB lenF (mCons (mVar 1) mNil)) mNil)) (bName 2) cYes (mCall cf "_law_same" [false, false] (mCons (mOp ixF (mVar 0) (mVar 2)) (mCons (mOp ixF (mVar 1) (mVar 2)) mNil))) [2]) mNil)))))))))
def fn__law_same : Fn := { ps := ["told", "due"], n := 3, body := cd__law_same, kws := [] }
def cd__law_frac (cf : CF) : MS :=
    (mSeq (mPar [2, 3] (mCons (mB absF (mCons (mVar 0) mNil)) (mCons (mB absF (mCons (mVar 1) mNil)) mNil)))
    (mSeq (mWhile (mTest (mOp gtF (mVar 3) (mK (.int 0)))) (mPar [2, 3] (mCons (mVar 3) (mCons (mOp modF (mB intF (mCons (mVar 2) mNil)) (mVar 3)) mNil))))
    (mSeq (mSet 4 (mIf (mTest (mOp ltF (mVar 1) (mK (.int 0)))) (mUn negF (mK (.int 1))) (mK (.int 1))))
    (mRet (mTup (mCons (mOp fdivF (mOp mulF (mVar 4) (mVar 0)) (mVar 2)) (mCons (mOp fdivF (mOp mulF (mVar 4) (mVar 1)) (mVar 2)) mNil)))))))
def fn__law_frac : Fn := { ps := ["top", "bottom"], n := 5, body := cd__law_frac, kws := [] }
structure Has (Γ : String → Option Fn) : Prop where
  _law_begin : ∃ k, Γ "_law_begin" = some { fn__law_begin with kws := k }
  _law_pick : ∃ k, Γ "_law_pick" = some { fn__law_pick with kws := k }
  _law_same : ∃ k, Γ "_law_same" = some { fn__law_same with kws := k }
  _law_frac : ∃ k, Γ "_law_frac" = some { fn__law_frac with kws := k }
end LA
end P_Code_LA

section P_LA
set_option Elab.async false
set_option linter.all false
set_option maxRecDepth 100000
/-! LA: the draws of a family of laws, by a list of three ints; equality of values; lowest terms. -/
namespace LA
open Ev
set_option autoImplicit false
local macro_rules
  | `(tactic| simp_arith [$args,*]) => `(tactic| simp only [at_bind, at_ok, at_er, at_no, at_var, at_k, at_op, at_un, at_lk, at_opt, at_nil, at_cons, at_b, at_lks0, at_lks1, at_test, at_toTs0, at_toTs1, at_toTv, at_toTf, at_toTl, at_notT, ltl0, ltl1, ltl2, ltl3, ltl4, ltl5, ltl6, ltl7, ltl8, ltl9, ltl10, ltl11, ltl12, ltl13, ltl14, ltl15, ltl16, at_andT, at_orT, at_if, at_andV, at_orV, at_chain, at_set, at_drop, at_ret, at_pass, at_brk, at_cnt, at_ifS, at_seq, at_putv, at_putf, at_tup, at_lst, at_call, at_callK, at_args0, at_args1, at_argb, at_argt, at_callA, at_unp, at_btup, at_blst, at_bnil, at_bcons, at_bname, at_isi, at_notV, at_par, at_stabs0, at_stabs1, at_stabv, at_stabf, at_puts0, at_puts1, at_daug, at_store, at_chk, at_getE, at_setO, at_modE, at_meth, at_for, at_sval, at_rng1, at_sl, at_po0, at_po1, at_lc, at_dct, at_clear0, at_clear1, at_lc0, at_nox, at_yes, at_for0, at_aft_nx, at_aft_ct, at_aft_bk, at_aft_rt, at_wip0, at_wip1, Bool.and_true, look, List.getElem?_cons_zero, List.getElem?_cons_succ, List.getElem?_nil, List.set_cons_zero, List.set_cons_succ, List.set_nil, List.length_cons, List.length_nil, List.length_map, List.cons_append, List.nil_append, List.length_set, addF, subF, negF, ltF, leF, gtF, geF, isF, isnF, isNF, gcdF, absF, intF, iaddF, isiF, isi, Option.map_some, Option.map_none, Option.bind_some, Ob.data, keyT, List.map_cons, List.map_nil, argsS, bIdx, back, likeA, List.nodup_nil, List.nodup_cons, List.not_mem_nil, not_false_eq_true, and_self, and_true, true_and, if_true, if_false, ite_true, ite_false, ↓reduceIte, Bool.not_true, Bool.not_false, Bool.false_eq_true, decide_true, decide_false, Ev.finish, endOf, retOf, leave, enter, tagA, Ev.strip, retag, List.replicate, Nat.reduceAdd, Nat.reduceSub, Nat.reduceLT, Nat.reduceLeDiff, Nat.reduceEqDiff, permL, liftO, liftG, Urn.ty, Urn.st, Urn.lg, Urn.lo, eq_self, Urn.rt, line0, line1, line2, line3, line4, line5, line6, line7, line8, line9, line10, line11, line12, line13, line14, line15, line16, Urn.g_cells, Urn.g_at, Urn.g_deep, Urn.g_mix, Urn.g_turn, Urn.d_at, Urn.d_turn, Urn.p_at, Urn.p_deep, Urn.p_mix, Urn.p_turn, eq_int, ne_int, eq_bool, ne_bool, ten18, ten15, lenF, runFn, obT, at_aug, at_mForI1, ite_app, bind_ite, Sr.ty, Sr.st, Sr.rt, Sr.lg, Sr.lo, Sr.g0, Sr.g1, Sr.g2, Sr.s0, Sr.s2, Sr.tst, Sr.trt, Int.natCast_one, Int.natCast_zero, Int.cast_ofNat_Int, Int.reduceEq, Int.reduceLT, Int.reduceLE, Int.reduceAdd, Int.reduceSub, Int.reduceMul, Int.reduceNeg, reduceCtorEq, $args,*])
  | `(tactic| simp_arith [$args,*] at $h:ident) => `(tactic| simp only [at_bind, at_ok, at_er, at_no, at_var, at_k, at_op, at_un, at_lk, at_opt, at_nil, at_cons, at_b, at_lks0, at_lks1, at_test, at_toTs0, at_toTs1, at_toTv, at_toTf, at_toTl, at_notT, ltl0, ltl1, ltl2, ltl3, ltl4, ltl5, ltl6, ltl7, ltl8, ltl9, ltl10, ltl11, ltl12, ltl13, ltl14, ltl15, ltl16, at_andT, at_orT, at_if, at_andV, at_orV, at_chain, at_set, at_drop, at_ret, at_pass, at_brk, at_cnt, at_ifS, at_seq, at_putv, at_putf, at_tup, at_lst, at_call, at_callK, at_args0, at_args1, at_argb, at_argt, at_callA, at_unp, at_btup, at_blst, at_bnil, at_bcons, at_bname, at_isi, at_notV, at_par, at_stabs0, at_stabs1, at_stabv, at_stabf, at_puts0, at_puts1, at_daug, at_store, at_chk, at_getE, at_setO, at_modE, at_meth, at_for, at_sval, at_rng1, at_sl, at_po0, at_po1, at_lc, at_dct, at_clear0, at_clear1, at_lc0, at_nox, at_yes, at_for0, at_aft_nx, at_aft_ct, at_aft_bk, at_aft_rt, at_wip0, at_wip1, Bool.and_true, look, List.getElem?_cons_zero, List.getElem?_cons_succ, List.getElem?_nil, List.set_cons_zero, List.set_cons_succ, List.set_nil, List.length_cons, List.length_nil, List.length_map, List.cons_append, List.nil_append, List.length_set, addF, subF, negF, ltF, leF, gtF, geF, isF, isnF, isNF, gcdF, absF, intF, iaddF, isiF, isi, Option.map_some, Option.map_none, Option.bind_some, Ob.data, keyT, List.map_cons, List.map_nil, argsS, bIdx, back, likeA, List.nodup_nil, List.nodup_cons, List.not_mem_nil, not_false_eq_true, and_self, and_true, true_and, if_true, if_false, ite_true, ite_false, ↓reduceIte, Bool.not_true, Bool.not_false, Bool.false_eq_true, decide_true, decide_false, Ev.finish, endOf, retOf, leave, enter, tagA, Ev.strip, retag, List.replicate, Nat.reduceAdd, Nat.reduceSub, Nat.reduceLT, Nat.reduceLeDiff, Nat.reduceEqDiff, permL, liftO, liftG, Urn.ty, Urn.st, Urn.lg, Urn.lo, eq_self, Urn.rt, line0, line1, line2, line3, line4, line5, line6, line7, line8, line9, line10, line11, line12, line13, line14, line15, line16, Urn.g_cells, Urn.g_at, Urn.g_deep, Urn.g_mix, Urn.g_turn, Urn.d_at, Urn.d_turn, Urn.p_at, Urn.p_deep, Urn.p_mix, Urn.p_turn, eq_int, ne_int, eq_bool, ne_bool, ten18, ten15, lenF, runFn, obT, at_aug, at_mForI1, ite_app, bind_ite, Sr.ty, Sr.st, Sr.rt, Sr.lg, Sr.lo, Sr.g0, Sr.g1, Sr.g2, Sr.s0, Sr.s2, Sr.tst, Sr.trt, Int.natCast_one, Int.natCast_zero, Int.cast_ofNat_Int, Int.reduceEq, Int.reduceLT, Int.reduceLE, Int.reduceAdd, Int.reduceSub, Int.reduceMul, Int.reduceNeg, reduceCtorEq, $args,*] at $h:ident)
section
variable {Γ : String → Option Fn}
def pickR (s : Sr) (many : Int) : Int × Sr :=
  if 0 < s.deep then (s.deep.fmod many, { s with deep := s.deep.fdiv many })
  else
    let n := s.many + 1
    let a := ((s.seed + 3935559000370003845 * n) ^ 3 + n).fmod 618970019642690137449562111
    let b := (a ^ 3 + s.seed + 2691343689449507681).fmod 162259276829213363391578010288127
    ((b.fdiv 1000003).fmod many, { s with many := n })
structure SOk (k : Nat) (s : Sr) : Prop where
  seed : Bd 100 s.seed
  m0 : 0 ≤ s.many
  m1 : s.many ≤ k
theorem SOk.mono {j k : Nat} {s : Sr} (h : SOk j s) (l : j ≤ k) : SOk k s := ⟨h.seed, h.m0, by have := h.m1; omega⟩
theorem r_pick (H : Has Γ) (n : Nat) (s : Sr) (many : Int) (o : Ob) (ho : strip o = s.ob) (hm : many ≠ 0) (hb : Bd 9000 many) (hs : Bd 100 s.seed) (hn : Bd 60 s.many) :
    callN Γ (n + 1) "_law_pick" [.own o, .v (.int many)] = .rt (.v (.int (pickR s many).1)) [.own (retag o (pickR s many).2.ob), .v (.int many)] := by
  obtain ⟨k, hk⟩ := H._law_pick
  rw [callN_eq hk]
  have n1 : Bd 61 (s.many + 1) := hn.add (by decide)
  have k1 : Bd 62 3935559000370003845 := by decide
  have b1 : Bd 130 (s.seed + 3935559000370003845 * (s.many + 1)) := ((hs.mono (by decide : 100 ≤ 129)).add ((k1.mul n1).mono (by decide))).mono (by decide)
  have z1 : (618970019642690137449562111 : Int) ≠ 0 := by decide
  have z2 : (162259276829213363391578010288127 : Int) ≠ 0 := by decide
  have z3 : (1000003 : Int) ≠ 0 := by decide
  have k3 : Bd 20 1000003 := by decide
  have p1 := CPow_small b1 (by decide : (0 : Int) ≤ 3) (by decide) (by decide)
  have p2 := CPow_small (bd_fmod ((s.seed + 3935559000370003845 * (s.many + 1)) ^ 3 + (s.many + 1)) 618970019642690137449562111 (by decide) (by decide : Bd 100 618970019642690137449562111)) (by decide : (0 : Int) ≤ 3) (by decide) (by decide)
  rw [show Int.toNat 3 = 3 from rfl] at p1 p2
  by_cases h : 0 < s.deep
  · simp_arith [fn__law_pick, cd__law_pick, ho, h, mod_ok hm, fdiv_ok hm hb, pickR]
  · simp_arith [fn__law_pick, cd__law_pick, ho, h, mod_ok hm, fdiv_ok z3 k3, mul_ok k1 n1, p1, p2, mod_ok z1, mod_ok z2, pickR]
theorem pick_ok {k : Nat} {s : Sr} {many : Int} (h : SOk k s) (hm : 0 < many) : 0 ≤ (pickR s many).1 ∧ (pickR s many).1 < many ∧ SOk (k + 1) (pickR s many).2 := by
  have g1 := fun x => Int.fmod_nonneg_of_pos x hm
  have g2 := fun x => Int.fmod_lt_of_pos x hm
  obtain ⟨h1, h2, h3⟩ := h
  unfold pickR
  split
  · exact ⟨g1 _, g2 _, h1, h2, by show s.many ≤ _; omega⟩
  · exact ⟨g1 _, g2 _, h1, by show 0 ≤ s.many + 1; omega, by show s.many + 1 ≤ _; omega⟩
theorem pick (H : Has Γ) {m k : Nat} {s : Sr} {many : Int} {o : Ob} (hm : 1 ≤ m) (ho : strip o = s.ob) (h : SOk k s) (hk : k ≤ 1000000) (h0 : 0 < many) (hb : Bd 9000 many) :
    ∃ r s', callN Γ m "_law_pick" [.own o, .v (.int many)] = .rt (.v (.int r)) [.own (retag o s'.ob), .v (.int many)] ∧ 0 ≤ r ∧ r < many ∧ SOk (k + 1) s' := by
  obtain ⟨n, rfl⟩ : ∃ n, m = n + 1 := ⟨m - 1, by omega⟩
  obtain ⟨a, b, c⟩ := pick_ok h h0
  refine ⟨_, _, r_pick H n s many o ho (by omega) hb h.seed ?_, a, b, c⟩
  have := h.m0
  have := h.m1
  show _ < 2 ^ 60
  have : (1000000 : Nat) < 2 ^ 60 := by decide
  omega
/-- .. out of a list lent to the def -/
theorem pickT (H : Has Γ) {m k : Nat} {s : Sr} {many : Int} (hm : 1 ≤ m) (h : SOk k s) (hk : k ≤ 1000000) (h0 : 0 < many) (hb : Bd 9000 many) :
    ∃ r s', callN Γ m "_law_pick" [.own (.tg 0 s.ob), .v (.int many)] = .rt (.v (.int r)) [.own (.tg 0 s'.ob), .v (.int many)] ∧ 0 ≤ r ∧ r < many ∧ SOk (k + 1) s' := pick H hm rfl h hk h0 hb
theorem pickO (H : Has Γ) {m k : Nat} {s : Sr} {many : Int} (hm : 1 ≤ m) (h : SOk k s) (hk : k ≤ 1000000) (h0 : 0 < many) (hb : Bd 9000 many) :
    ∃ r s', callN Γ m "_law_pick" [.own s.ob, .v (.int many)] = .rt (.v (.int r)) [.own s'.ob, .v (.int many)] ∧ 0 ≤ r ∧ r < many ∧ SOk (k + 1) s' := pick H hm rfl h hk h0 hb
/-! ### equality -/
/-- plain data of a depth -/
def Pl : Nat → T → Prop
  | 0, _ => False
  | _ + 1, .none => True
  | _ + 1, .bool _ => True
  | _ + 1, .int _ => True
  | _ + 1, .str x => PySem.PyData.strOk x = true
  | d + 1, .list ts => ts.length ≤ PySem.sizeLine ∧ ∀ t ∈ ts, Pl d t
  | d + 1, .tuple ts => ts.length ≤ PySem.sizeLine ∧ ∀ t ∈ ts, Pl d t
  | _ + 1, _ => False
theorem Pl.mono : ∀ {d e : Nat} {t : T}, Pl d t → d ≤ e → Pl e t
  | 0, _, _, h, _ => h.elim
  | d + 1, 0, _, _, l => by omega
  | d + 1, e + 1, t, h, l => by
    cases t with
    | none => trivial
    | bool b => trivial
    | int i => trivial
    | str x => exact h
    | list ts => exact ⟨h.1, fun t m => (h.2 t m).mono (by omega)⟩
    | tuple ts => exact ⟨h.1, fun t m => (h.2 t m).mono (by omega)⟩
    | dict _ => exact h.elim
    | ro _ => exact h.elim
    | fn _ => exact h.elim
theorem ix_list {ts : List T} {k : Nat} (h : k < ts.length) : ixF (.list ts) (.int (0 + (k : Int))) = some (.v ts[k]) := by
  have h2 : (k : Int) < ts.length := by omega
  simp [ixF, L2.atI, L2.ixN, h, h2]
theorem ix_tup {ts : List T} {k : Nat} (h : k < ts.length) : ixF (.tuple ts) (.int (0 + (k : Int))) = some (.v ts[k]) := by
  have h2 : (k : Int) < ts.length := by omega
  simp [ixF, L2.atI, L2.ixN, h, h2]
theorem bools_rep : ∀ ts : List T, boolsOf (ts.map fun _ => T.bool true) = some (ts.map fun _ => true)
  | [] => rfl
  | t :: ts => by simp [boolsOf, bools_rep ts]
theorem all_true (ts : List T) : allF [.list (ts.map fun _ => T.bool true)] = some (.v (.bool true)) := by
  simp only [allF, bools_rep, Option.map_some]
  congr 3
  simp
theorem rng_ok {n : Nat} (h : n ≤ PySem.sizeLine) : (-(2 ^ 62) ≤ (n : Int) ∧ (n : Int) < 2 ^ 62) = True := by
  have e : PySem.sizeLine < 2 ^ 62 := by decide +kernel
  refine eq_true ⟨by omega, ?_⟩
  have : (n : Int) < ((2 ^ 62 : Nat) : Int) := by omega
  simpa using this
theorem same_refl (H : Has Γ) : ∀ (d m : Nat) (t : T), Pl d t → d ≤ m → callN Γ m "_law_same" [.v t, .v t] = .rt (.v (.bool true)) [.v t, .v t]
  | 0, _, _, h, _ => h.elim
  | d + 1, m, t, h, hm => by
    obtain ⟨n, rfl⟩ : ∃ n, m = n + 1 := ⟨m - 1, by omega⟩
    obtain ⟨k, hk⟩ := H._law_same
    rw [callN_eq hk]
    cases t with
    | none => simp_arith [fn__law_same, cd__law_same]
    | bool b => simp_arith [fn__law_same, cd__law_same]
    | int i => simp_arith [fn__law_same, cd__law_same, eq_self]
    | str x =>
      have e : eqF (.str x) (.str x) = some (.v (.bool true)) := by rw [eq_str h h]; simp
      simp_arith [fn__law_same, cd__law_same, e]
    | list ts =>
      obtain ⟨hl, hs⟩ := h
      have k : ∀ t' ∈ rngTs 0 ts.length, ((mCall (callN Γ n) "_law_same" [false, false] (mCons (mOp ixF (mVar 0) (mVar 2)) (mCons (mOp ixF (mVar 1) (mVar 2)) mNil)))) (([.v (.list ts), .v (.list ts), .non] : Sls).set 2 (.v t')) = .ok (.v ((fun _ => T.bool true) t')) (([.v (.list ts), .v (.list ts), .non] : Sls).set 2 (.v t')) := fun t' ht => by
        obtain ⟨k, hk, rfl⟩ := mem_rng ht
        have ih := same_refl H d n ts[k] (hs _ (List.getElem_mem hk)) (by omega)
        simp_arith [ix_list hk, ih]
      have l := lc_name (i := 2) (env := [.v (.list ts), .v (.list ts), .non]) rfl _ (rngTs 0 ts.length) [] k (by rw [rng_len]; simpa using hl)
      simp_arith [fn__law_same, cd__law_same, rng_ok hl, Int.toNat_natCast, l, all_true]
    | tuple ts =>
      obtain ⟨hl, hs⟩ := h
      have k : ∀ t' ∈ rngTs 0 ts.length, ((mCall (callN Γ n) "_law_same" [false, false] (mCons (mOp ixF (mVar 0) (mVar 2)) (mCons (mOp ixF (mVar 1) (mVar 2)) mNil)))) (([.v (.tuple ts), .v (.tuple ts), .non] : Sls).set 2 (.v t')) = .ok (.v ((fun _ => T.bool true) t')) (([.v (.tuple ts), .v (.tuple ts), .non] : Sls).set 2 (.v t')) := fun t' ht => by
        obtain ⟨k, hk, rfl⟩ := mem_rng ht
        have ih := same_refl H d n ts[k] (hs _ (List.getElem_mem hk)) (by omega)
        simp_arith [ix_tup hk, ih]
      have l := lc_name (i := 2) (env := [.v (.tuple ts), .v (.tuple ts), .non]) rfl _ (rngTs 0 ts.length) [] k (by rw [rng_len]; simpa using hl)
      simp_arith [fn__law_same, cd__law_same, rng_ok hl, Int.toNat_natCast, l, all_true]
    | dict _ => exact h.elim
    | ro _ => exact h.elim
    | fn _ => exact h.elim
/-! ### lowest terms -/
theorem frac (H : Has Γ) {m : Nat} {a b : Int} (hm : 1 ≤ m) (hb : b ≠ 0) (ha : Bd 4000 a) (hc : Bd 4000 b) : callN Γ m "_law_frac" [.v (.int a), .v (.int b)] = .rt (.v (fr (lowP a b) (lowQ a b))) [.v (.int a), .v (.int b)] := by
  obtain ⟨n, rfl⟩ : ∃ n, m = n + 1 := ⟨m - 1, by omega⟩
  obtain ⟨k, hk⟩ := H._law_frac
  rw [callN_eq hk]
  obtain ⟨⟨x, y⟩, e, p, c⟩ := while_by (C := (mTest (mOp gtF (mVar 3) (mK (.int 0))))) (B := (mPar [2, 3] (mCons (mVar 3) (mCons (mOp modF (mB intF (mCons (mVar 2) mNil)) (mVar 3)) mNil)))) (σ := Nat × Nat) (fun s => [.v (.int a), .v (.int b), .v (.int s.1), .v (.int s.2), .non]) (fun s => Nat.gcd s.1 s.2 = Nat.gcd a.natAbs b.natAbs) (fun s => s.2) (fun s => decide (0 < s.2)) (fun s => (s.2, s.1 % s.2))
    (fun s p => by
      obtain ⟨x, y⟩ := s
      simp_arith []
      by_cases h : 0 < y
      · have : (0 : Int) < (y : Int) := by omega
        simp only [h, this, decide_true]
      · have : ¬ (0 : Int) < (y : Int) := by omega
        simp only [h, this, decide_false])
    (fun s p c => by
      obtain ⟨x, y⟩ := s
      have hy : 0 < y := by simpa using c
      have hy' : (y : Int) ≠ 0 := by omega
      refine ⟨?_, ?_, Nat.mod_lt _ hy⟩
      · have f := fmod_nat x y
        simp_arith [mod_ok hy', f]
      · show Nat.gcd y (x % y) = _
        rw [← p, Nat.gcd_comm x y, Nat.gcd_rec y x, Nat.gcd_comm]) b.natAbs (a.natAbs, b.natAbs) (Nat.le_refl _) rfl
  have hy : y = 0 := by
    have : ¬ 0 < y := by simpa using c
    omega
  subst hy
  have hx : x = Nat.gcd a.natAbs b.natAbs := by
    have : Nat.gcd x 0 = Nat.gcd a.natAbs b.natAbs := p
    rwa [Nat.gcd_zero_right] at this
  subst hx
  have g0 : ((a.natAbs.gcd b.natAbs : Nat) : Int) ≠ 0 := gI_ne hb
  have g1 : Bd 4000 ((a.natAbs.gcd b.natAbs : Nat) : Int) := gI_bd hb hc
  by_cases h : b < 0
  · have d1 := fdiv_ok (i := -1 * a) g0 g1
    have d2 := fdiv_ok (i := -1 * b) g0 g1
    have k1 : Bd 1 (-1) := by decide
    simp_arith [fn__law_frac, cd__law_frac, abs_nat, e, h, mul_ok k1 ha, mul_ok k1 hc, d1, d2, lowP, lowQ, sg, gI, fr]
  · have d1 := fdiv_ok (i := 1 * a) g0 g1
    have d2 := fdiv_ok (i := 1 * b) g0 g1
    have k1 : Bd 1 1 := by decide
    simp_arith [fn__law_frac, cd__law_frac, abs_nat, e, h, mul_ok k1 ha, mul_ok k1 hc, d1, d2, lowP, lowQ, sg, gI, fr]
/-! ### the start -/
theorem cut_all {ts : List T} {k : Int} (h : (ts.length : Int) ≤ k) : cutT ts none (some k) = ts := by
  unfold cutT HT.sIx
  have e : ¬ k < 0 := by omega
  have e2 : min k.toNat ts.length = ts.length := by omega
  simp only [e, if_false, e2, List.drop_zero, Nat.sub_zero, List.take_length]
theorem ix_ro {ns : List Int} {p : Int} (h0 : 0 ≤ p) (h1 : p < ns.length) : ixF (.ro (ns.map .int)) (.int p) = some (.v (.int (ns.getD p.toNat 0))) := by
  have h2 : p.toNat < ns.length := by omega
  simp [ixF, L2.atI, L2.ixN, h0, h1, h2]
def dp (c : Int) : Int := if (if c < 0 then -c else c) - 1000000000000000000 > 0 then (if c < 0 then -c else c) - 1000000000000000000 else 0
theorem begin_ok (H : Has Γ) {m : Nat} {ns : List Int} {p : Int} (hm : 1 ≤ m) (hl : ns.length ≤ 63) (hb : ∀ c ∈ ns, Bd 1048576 c) (h0 : 0 ≤ p) (hp : p < 1000) :
    ∃ s : Sr, callN Γ m "_law_begin" [.v (.ro (ns.map .int)), .v (.int p)] = .rt (.fr s.ob) [.v (.ro (ns.map .int)), .v (.int p)] ∧ SOk 0 s := by
  obtain ⟨n, rfl⟩ : ∃ n, m = n + 1 := ⟨m - 1, by omega⟩
  obtain ⟨k, hk⟩ := H._law_begin
  rw [callN_eq hk]
  have bp : Bd 20 p := by
    have : Bd 20 1000 := by decide
    exact this.of_le (by omega)
  have k1 : Bd 20 69069 := by decide
  have z1 : (618970019642690137449562111 : Int) ≠ 0 := by decide
  have kM : Bd 100 618970019642690137449562111 := by decide
  have k2 : Bd 64 6364136223846793005 := by decide
  have k3 : Bd 64 2862933555777941757 := by decide
  have cut := cut_all (ts := ns.map T.int) (k := 200) (by rw [List.length_map]; omega)
  have s0 : Bd 100 (1013904223 + 69069 * p + (ns.length : Int)) := by
    have : Bd 100 1000000000000 := by decide
    exact this.of_le (by omega)
  obtain ⟨e, pe⟩ := for_fold (b := (bName 3)) (S := (mSet 2 (mOp modF (mB intF (mCons (mOp addF (mOp addF (mOp mulF (mVar 2) (mK (.int 6364136223846793005))) (mOp mulF (mVar 3) (mK (.int 2862933555777941757)))) (mK (.int 3037000493))) mNil)) (mK (.int 618970019642690137449562111))))) (σ := Int × Sl) (fun s => [.v (.ro (ns.map .int)), .v (.int p), .v (.int s.1), s.2]) T.int (fun s c => ((s.1 * 6364136223846793005 + c * 2862933555777941757 + 3037000493).fmod 618970019642690137449562111, .v (.int c))) (fun s => Bd 100 s.1) ns
    (1013904223 + 69069 * p + (ns.length : Int), .non) s0 (fun s hs c hc => by
      refine ⟨?_, bd_fmod _ _ (by decide) kM⟩
      simp_arith [mul_ok hs k2, mul_ok (hb c hc) k3, mod_ok z1])
  generalize ns.foldl _ _ = s at e pe
  obtain ⟨sd, cl⟩ := s
  have mp := mul_ok k1 bp
  have p18 : powXF (.int 10) (.int 18) = some (.v (.int 1000000000000000000)) := by rfl
  by_cases h : p < ns.length
  · have e2 := ix_ro (ns := ns) h0 h
    refine ⟨⟨dp (ns.getD p.toNat 0), sd, 0⟩, ?_, pe, Int.le_refl _, Int.le_refl _⟩
    simp_arith [fn__law_begin, cd__law_begin, mp, slF, cut, itemsOf, e, h, e2, p18, max2F, Sr.ob, dp]
  · refine ⟨⟨dp 0, sd, 0⟩, ?_, pe, Int.le_refl _, Int.le_refl _⟩
    simp_arith [fn__law_begin, cd__law_begin, mp, slF, cut, itemsOf, e, h, p18, max2F, Sr.ob, dp]
end
end LA
end P_LA

noncomputable section P_Code_SY
set_option linter.all false
set_option maxRecDepth 100000
/-! Code that laws share; printed by gen.py. -/
namespace SY
open Ev

def K_SUMS : T := (.tuple [(.str "less"), (.str "most"), (.str "equal")])
def K_TRIED : T := (.tuple [(.str "some"), (.str "every")])
def K_JOINED : List (PySem.Str × T) := [(PySem.Str.ofString "not", (.int 1)), (PySem.Str.ofString "both", (.int 2)), (PySem.Str.ofString "either", (.int 2))]
def cd_is_integer (cf : CF) : MS :=
    (mRet (mAndV (mIsi .int (mVar 0)) (mNotV (mIsi .bool (mVar 0)))))
def fn_is_integer : Fn := { ps := ["value"], n := 1, body := cd_is_integer, kws := [] }
def cd_is_below (cf : CF) : MS :=
    (mRet (mAndV (mCall cf "is_integer" [false] (mCons (mVar 0) mNil)) (mChain leF ltF (mK (.int 0)) (mVar 0) (mVar 1))))
def fn_is_below : Fn := { ps := ["value", "many"], n := 2, body := cd_is_below, kws := [] }
def cd_is_fraction (cf : CF) : MS :=
    (mSeq (mIfS (mOrT (mNotT (mTest (mIsi .tuple (mVar 0)))) (mTest (mOp neF (mB lenF (mCons (mVar 0) mNil)) (mK (.int 2))))) (mRet (mK (.bool false))) mPass)
    (mSeq (mUnp (mVar 0) (bTup 2 (bCons (bName 1) (bCons (bName 2) bNil))))
    (mRet (mAndV (mCall cf "is_integer" [false] (mCons (mVar 1) mNil)) (mAndV (mCall cf "is_integer" [false] (mCons (mVar 2) mNil)) (mAndV (mOp geF (mVar 2) (mK (.int 1))) (mOp eqF (mB gcdF (mCons (mVar 1) (mCons (mVar 2) mNil))) (mK (.int 1)))))))))
def fn_is_fraction : Fn := { ps := ["value"], n := 3, body := cd_is_fraction, kws := [] }
def cd_is_sum (cf : CF) : MS :=
    (mSeq (mIfS (mOrT (mTest (mOp neF (mB lenF (mCons (mVar 0) mNil)) (mK (.int 3)))) (mNotT (mTest (mCall cf "is_integer" [false] (mCons (mOp ixF (mVar 0) (mK (.int 2))) mNil))))) (mRet (mK (.bool false))) mPass)
    (mRet (mAndV (mIsi .tuple (mOp ixF (mVar 0) (mK (.int 1)))) (mAndV (mOp eqF (mB lenF (mCons (mOp ixF (mVar 0) (mK (.int 1))) mNil)) (mK (.int 3))) (mB allF (mCons (mLc (sVal (mOp ixF (mVar 0) (mK (.int 1)))) (bName 1) cYes (mCall cf "is_integer" [false] (mCons (mVar 1) mNil)) [1]) mNil))))))
def fn_is_sum : Fn := { ps := ["told"], n := 2, body := cd_is_sum, kws := [] }
def cd_is_atom_formed (cf : CF) : MS :=
    (mSeq (mIfS (mTest (mOp inF (mOp ixF (mVar 0) (mK (.int 0))) (mK K_SUMS))) (mRet (mCall cf "is_sum" [false] (mCons (mVar 0) mNil))) mPass)
    (mSeq (mIfS (mOrT (mTest (mOp ltF (mB lenF (mCons (mVar 0) mNil)) (mK (.int 2)))) (mNotT (mTest (mCall cf "is_below" [false, false] (mCons (mOp ixF (mVar 0) (mK (.int 1))) (mCons (mK (.int 3)) mNil)))))) (mRet (mK (.bool false))) mPass)
    (mSeq (mIfS (mTest (mOp eqF (mOp ixF (mVar 0) (mK (.int 0))) (mK (.str "rest")))) (mRet (mAndV (mOp eqF (mB lenF (mCons (mVar 0) mNil)) (mK (.int 4))) (mAndV (mCall cf "is_integer" [false] (mCons (mOp ixF (mVar 0) (mK (.int 2))) mNil)) (mAndV (mOp geF (mOp ixF (mVar 0) (mK (.int 2))) (mK (.int 2))) (mCall cf "is_below" [false, false] (mCons (mOp ixF (mVar 0) (mK (.int 3))) (mCons (mOp ixF (mVar 0) (mK (.int 2))) mNil))))))) mPass)
    (mRet (mAndV (mOp eqF (mOp ixF (mVar 0) (mK (.int 0))) (mK (.str "whole"))) (mOp eqF (mB lenF (mCons (mVar 0) mNil)) (mK (.int 2))))))))
def fn_is_atom_formed : Fn := { ps := ["told"], n := 1, body := cd_is_atom_formed, kws := [] }
def cd_inner_of (cf : CF) : MS :=
    (mSeq (mIfS (mOrT (mNotT (mTest (mIsi .tuple (mVar 0)))) (mOrT (mTest (mOp eqF (mB lenF (mCons (mVar 0) mNil)) (mK (.int 0)))) (mNotT (mTest (mIsi .str (mOp ixF (mVar 0) (mK (.int 0)))))))) (mRet (mK .none)) mPass)
    (mSeq (mIfS (mTest (mUn (cinF K_JOINED) (mOp ixF (mVar 0) (mK (.int 0))))) (mRet (mIf (mTest (mOp eqF (mB lenF (mCons (mVar 0) mNil)) (mOp addF (mUn (cgetF K_JOINED) (mOp ixF (mVar 0) (mK (.int 0)))) (mK (.int 1))))) (mSl (mVar 0) (mPo (some (mK (.int 1)))) (mPo none)) (mK .none))) mPass)
    (mSeq (mIfS (mTest (mOp inF (mOp ixF (mVar 0) (mK (.int 0))) (mK K_TRIED))) (mRet (mIf (mAndT (mTest (mOp eqF (mB lenF (mCons (mVar 0) mNil)) (mK (.int 3)))) (mTest (mCall cf "is_below" [false, false] (mCons (mOp ixF (mVar 0) (mK (.int 1))) (mCons (mK (.int 3)) mNil))))) (mSl (mVar 0) (mPo (some (mK (.int 2)))) (mPo none)) (mK .none))) mPass)
    (mRet (mIf (mTest (mCall cf "is_atom_formed" [false] (mCons (mVar 0) mNil))) (mTup mNil) (mK .none))))))
def fn_inner_of : Fn := { ps := ["told"], n := 1, body := cd_inner_of, kws := [] }
def cd_is_saying (cf : CF) : MS :=
    (mSeq (mSet 1 (mLst (mCons (mVar 0) mNil)))
    (mSeq (mWhile (mTest (mOp gtF (mB lenF (mCons (mVar 1) mNil)) (mK (.int 0)))) (mSeq (mSet 2 (mCall cf "inner_of" [false] (mCons (mMeth 1 "list" popF mNil) mNil)))
    (mSeq (mIfS (mTest (mOp isF (mVar 2) (mK .none))) (mRet (mK (.bool false))) mPass)
    (mDrop (mMeth 1 "list" extF (mCons (mVar 2) mNil))))))
    (mRet (mK (.bool true)))))
def fn_is_saying : Fn := { ps := ["value"], n := 3, body := cd_is_saying, kws := [] }
def cd_check_saying (cf : CF) : MS :=
    (mIfS (mNotT (mTest (mCall cf "is_saying" [false] (mCons (mVar 0) mNil)))) (fun _ => .no) mPass)
def fn_check_saying : Fn := { ps := ["saying"], n := 1, body := cd_check_saying, kws := [] }
def cd_inner_parts (cf : CF) : MS :=
    (mSeq (mIfS (mTest (mUn (cinF K_JOINED) (mOp ixF (mVar 0) (mK (.int 0))))) (mRet (mSl (mVar 0) (mPo (some (mK (.int 1)))) (mPo none))) mPass)
    (mRet (mIf (mTest (mOp inF (mOp ixF (mVar 0) (mK (.int 0))) (mK K_TRIED))) (mSl (mVar 0) (mPo (some (mK (.int 2)))) (mPo none)) (mTup mNil))))
def fn_inner_parts : Fn := { ps := ["saying"], n := 1, body := cd_inner_parts, kws := [] }
def cd_is_atom (cf : CF) : MS :=
    (mRet (mAndV (mUn (cninF K_JOINED) (mOp ixF (mVar 0) (mK (.int 0)))) (mOp ninF (mOp ixF (mVar 0) (mK (.int 0))) (mK K_TRIED))))
def fn_is_atom : Fn := { ps := ["saying"], n := 1, body := cd_is_atom, kws := [] }
def cd_variables_of (cf : CF) : MS :=
    (mSeq (mIfS (mTest (mOp inF (mOp ixF (mVar 0) (mK (.int 0))) (mK K_SUMS))) (mRet (mB tupleF (mCons (mLc (sRng1 (mCons (mK (.int 3)) mNil)) (bName 1) (mTest (mOp neF (mOp ixF (mOp ixF (mVar 0) (mK (.int 1))) (mVar 1)) (mK (.int 0)))) (mVar 1) [1]) mNil))) mPass)
    (mRet (mSl (mVar 0) (mPo (some (mK (.int 1)))) (mPo (some (mK (.int 2)))))))
def fn_variables_of : Fn := { ps := ["atom"], n := 2, body := cd_variables_of, kws := [] }
def cd_free_of (cf : CF) : MS :=
    (mSeq (mIfS (mTest (mCall cf "is_atom" [false] (mCons (mVar 0) mNil))) (mRet (mCall cf "variables_of" [false] (mCons (mVar 0) mNil))) mPass)
    (mSeq (mSet 1 (mLc2 (sVal (mCall cf "inner_parts" [false] (mCons (mVar 0) mNil))) (bName 2) cYes (sVal (mCall cf "free_of" [false] (mCons (mVar 2) mNil))) (bName 3) cYes (leafD (mVar 3) (mK (.bool true))) [2, 3] [3] (.dct [])))
    (mSeq (mIfS (mTest (mOp inF (mOp ixF (mVar 0) (mK (.int 0))) (mK K_TRIED))) (mDrop (mMeth 1 "dict" popKF (mCons (mOp ixF (mVar 0) (mK (.int 1))) (mCons (mK .none) mNil)))) mPass)
    (mRet (mB tupleF (mCons (mB sortedAF (mCons (mVar 1) mNil)) mNil))))))
def fn_free_of : Fn := { ps := ["saying"], n := 4, body := cd_free_of, kws := [] }
def cd_parts_of (cf : CF) : MS :=
    (mSeq (mSet 1 (mLc2 (sVal (mCall cf "inner_parts" [false] (mCons (mVar 0) mNil))) (bName 2) cYes (sVal (mCall cf "parts_of" [false] (mCons (mVar 2) mNil))) (bName 3) cYes (leafL (mVar 3)) [2, 3] [3] (.lst [])))
    (mRet (mOp addF (mB tupleF (mCons (mVar 1) mNil)) (mTup (mCons (mVar 0) mNil)))))
def fn_parts_of : Fn := { ps := ["saying"], n := 4, body := cd_parts_of, kws := [] }
def cd_is_plain (cf : CF) : MS :=
    (mRet (mB allF (mCons (mLc (sVal (mCall cf "parts_of" [false] (mCons (mVar 0) mNil))) (bName 1) cYes (mOp ninF (mOp ixF (mVar 1) (mK (.int 0))) (mK K_TRIED)) [1]) mNil)))
def fn_is_plain : Fn := { ps := ["saying"], n := 2, body := cd_is_plain, kws := [] }
def cd_sum_left (cf : CF) : MS :=
    (mSeq (mSet 3 (mK (.int 1)))
    (mSeq (mForI 2 (bTup 2 (bCons (bName 4) (bCons (bName 5) bNil))) (mSet 3 (mOp mulF (mVar 3) (mIf (mTest (mOp neF (mOp ixF (mVar 0) (mVar 4)) (mK (.int 0)))) (mOp ixF (mVar 5) (mK (.int 1))) (mK (.int 1))))))
    (mSeq (mSet 6 (mOp mulF (mUn negF (mVar 1)) (mVar 3)))
    (mSeq (mForI 2 (bTup 2 (bCons (bName 4) (bCons (bName 5) bNil))) (mIfS (mTest (mOp neF (mOp ixF (mVar 0) (mVar 4)) (mK (.int 0)))) (mSet 6 (mOp addF (mVar 6) (mOp mulF (mOp mulF (mOp ixF (mVar 0) (mVar 4)) (mOp ixF (mVar 5) (mK (.int 0)))) (mOp fdivF (mVar 3) (mOp ixF (mVar 5) (mK (.int 1))))))) mPass))
    (mRet (mVar 6))))))
def fn_sum_left : Fn := { ps := ["many", "limit", "given"], n := 7, body := cd_sum_left, kws := [] }
def cd_is_atom_true (cf : CF) : MS :=
    (mSeq (mIfS (mTest (mOp inF (mOp ixF (mVar 0) (mK (.int 0))) (mK K_SUMS))) (mSeq (mSet 2 (mCall cf "sum_left" [false, false, false] (mCons (mOp ixF (mVar 0) (mK (.int 1))) (mCons (mOp ixF (mVar 0) (mK (.int 2))) (mCons (mVar 1) mNil)))))
    (mSeq (mIfS (mTest (mOp eqF (mOp ixF (mVar 0) (mK (.int 0))) (mK (.str "less")))) (mRet (mOp ltF (mVar 2) (mK (.int 0)))) mPass)
    (mRet (mIf (mTest (mOp eqF (mOp ixF (mVar 0) (mK (.int 0))) (mK (.str "most")))) (mOp leF (mVar 2) (mK (.int 0))) (mOp eqF (mVar 2) (mK (.int 0))))))) mPass)
    (mSeq (mSet 3 (mOp dgetF (mVar 1) (mOp ixF (mVar 0) (mK (.int 1)))))
    (mRet (mAndV (mOp eqF (mOp ixF (mVar 3) (mK (.int 1))) (mK (.int 1))) (mOrV (mOp eqF (mOp ixF (mVar 0) (mK (.int 0))) (mK (.str "whole"))) (mOp eqF (mOp modF (mOp ixF (mVar 3) (mK (.int 0))) (mOp ixF (mVar 0) (mK (.int 2)))) (mOp ixF (mVar 0) (mK (.int 3)))))))))
def fn_is_atom_true : Fn := { ps := ["atom", "given"], n := 4, body := cd_is_atom_true, kws := [] }
def cd_is_true_at (cf : CF) : MS :=
    (mSeq (mIfS (mTest (mCall cf "is_atom" [false] (mCons (mVar 0) mNil))) (mRet (mCall cf "is_atom_true" [false, false] (mCons (mVar 0) (mCons (mVar 1) mNil)))) mPass)
    (mSeq (mSet 2 (mLc (sVal (mCall cf "inner_parts" [false] (mCons (mVar 0) mNil))) (bName 3) cYes (mCall cf "is_true_at" [false, false] (mCons (mVar 3) (mCons (mVar 1) mNil))) [3]))
    (mSeq (mIfS (mTest (mOp eqF (mOp ixF (mVar 0) (mK (.int 0))) (mK (.str "not")))) (mRet (mNotV (mOp ixF (mVar 2) (mK (.int 0))))) mPass)
    (mRet (mIf (mTest (mOp eqF (mOp ixF (mVar 0) (mK (.int 0))) (mK (.str "both")))) (mB allF (mCons (mVar 2) mNil)) (mB anyF (mCons (mVar 2) mNil)))))))
def fn_is_true_at : Fn := { ps := ["saying", "given"], n := 4, body := cd_is_true_at, kws := [] }
def cd_check_numbers (cf : CF) : MS :=
    (mSeq (mIfS (mOrT (mNotT (mTest (mIsi .tuple (mVar 1)))) (mTest (mOp neF (mB lenF (mCons (mVar 1) mNil)) (mB lenF (mCons (mCall cf "free_of" [false] (mCons (mVar 0) mNil)) mNil))))) (fun _ => .no) mPass)
    (mIfS (mNotT (mTest (mB allF (mCons (mLc (sVal (mVar 1)) (bName 2) cYes (mCall cf "is_fraction" [false] (mCons (mVar 2) mNil)) [2]) mNil)))) (fun _ => .no) mPass))
def fn_check_numbers : Fn := { ps := ["saying", "numbers"], n := 3, body := cd_check_numbers, kws := [] }
def cd_true_at (cf : CF) : MS :=
    (mSeq (mDrop (mCall cf "check_saying" [false] (mCons (mVar 0) mNil)))
    (mSeq (mIfS (mNotT (mTest (mCall cf "is_plain" [false] (mCons (mVar 0) mNil)))) (fun _ => .no) mPass)
    (mSeq (mDrop (mCall cf "check_numbers" [false, false] (mCons (mVar 0) (mCons (mVar 1) mNil))))
    (mRet (mCall cf "is_true_at" [false, false] (mCons (mVar 0) (mCons (mDZip (mCons (mCall cf "free_of" [false] (mCons (mVar 0) mNil)) (mCons (mVar 1) mNil))) mNil)))))))
def fn_true_at : Fn := { ps := ["saying", "numbers"], n := 2, body := cd_true_at, kws := [] }
structure Has (Γ : String → Option Fn) : Prop where
  is_integer : ∃ k, Γ "is_integer" = some { fn_is_integer with kws := k }
  is_below : ∃ k, Γ "is_below" = some { fn_is_below with kws := k }
  is_fraction : ∃ k, Γ "is_fraction" = some { fn_is_fraction with kws := k }
  is_sum : ∃ k, Γ "is_sum" = some { fn_is_sum with kws := k }
  is_atom_formed : ∃ k, Γ "is_atom_formed" = some { fn_is_atom_formed with kws := k }
  inner_of : ∃ k, Γ "inner_of" = some { fn_inner_of with kws := k }
  is_saying : ∃ k, Γ "is_saying" = some { fn_is_saying with kws := k }
  check_saying : ∃ k, Γ "check_saying" = some { fn_check_saying with kws := k }
  inner_parts : ∃ k, Γ "inner_parts" = some { fn_inner_parts with kws := k }
  is_atom : ∃ k, Γ "is_atom" = some { fn_is_atom with kws := k }
  variables_of : ∃ k, Γ "variables_of" = some { fn_variables_of with kws := k }
  free_of : ∃ k, Γ "free_of" = some { fn_free_of with kws := k }
  parts_of : ∃ k, Γ "parts_of" = some { fn_parts_of with kws := k }
  is_plain : ∃ k, Γ "is_plain" = some { fn_is_plain with kws := k }
  sum_left : ∃ k, Γ "sum_left" = some { fn_sum_left with kws := k }
  is_atom_true : ∃ k, Γ "is_atom_true" = some { fn_is_atom_true with kws := k }
  is_true_at : ∃ k, Γ "is_true_at" = some { fn_is_true_at with kws := k }
  check_numbers : ∃ k, Γ "check_numbers" = some { fn_check_numbers with kws := k }
  true_at : ∃ k, Γ "true_at" = some { fn_true_at with kws := k }
end SY
end P_Code_SY

section P_SY
set_option Elab.async false
set_option linter.all false
set_option maxRecDepth 100000
/-! SY: sayings, as the program's functions take them. -/
namespace SY
open Ev
set_option autoImplicit false
local macro_rules
  | `(tactic| simp_arith [$args,*]) => `(tactic| simp only [at_bind, at_ok, at_er, at_no, at_var, at_k, at_op, at_un, at_lk, at_opt, at_nil, at_cons, at_b, at_lks0, at_lks1, at_test, at_toTs0, at_toTs1, at_toTv, at_toTf, at_toTl, at_notT, ltl0, ltl1, ltl2, ltl3, ltl4, ltl5, ltl6, ltl7, ltl8, ltl9, ltl10, ltl11, ltl12, ltl13, ltl14, ltl15, ltl16, at_andT, at_orT, at_if, at_andV, at_orV, at_chain, at_set, at_drop, at_ret, at_pass, at_brk, at_cnt, at_ifS, at_seq, at_putv, at_putf, at_tup, at_lst, at_call, at_callK, at_args0, at_args1, at_argb, at_argt, at_callA, at_unp, at_btup, at_blst, at_bnil, at_bcons, at_bname, at_isi, at_notV, at_par, at_stabs0, at_stabs1, at_stabv, at_stabf, at_puts0, at_puts1, at_daug, at_store, at_chk, at_getE, at_setO, at_modE, at_meth, at_for, at_sval, at_rng1, at_sl, at_po0, at_po1, at_lc, at_dct, at_clear0, at_clear1, at_lc0, at_nox, at_yes, at_for0, at_aft_nx, at_aft_ct, at_aft_bk, at_aft_rt, at_wip0, at_wip1, Bool.and_true, look, List.getElem?_cons_zero, List.getElem?_cons_succ, List.getElem?_nil, List.set_cons_zero, List.set_cons_succ, List.set_nil, List.length_cons, List.length_nil, List.length_map, List.cons_append, List.nil_append, List.length_set, addF, subF, negF, ltF, leF, gtF, geF, isF, isnF, isNF, gcdF, absF, intF, iaddF, isiF, isi, Option.map_some, Option.map_none, Option.bind_some, Ob.data, keyT, List.map_cons, List.map_nil, argsS, bIdx, back, likeA, List.nodup_nil, List.nodup_cons, List.not_mem_nil, not_false_eq_true, and_self, and_true, true_and, if_true, if_false, ite_true, ite_false, ↓reduceIte, Bool.not_true, Bool.not_false, Bool.false_eq_true, decide_true, decide_false, Ev.finish, endOf, retOf, leave, enter, tagA, Ev.strip, retag, List.replicate, Nat.reduceAdd, Nat.reduceSub, Nat.reduceLT, Nat.reduceLeDiff, Nat.reduceEqDiff, permL, liftO, liftG, Urn.ty, Urn.st, Urn.lg, Urn.lo, eq_self, Urn.rt, line0, line1, line2, line3, line4, line5, line6, line7, line8, line9, line10, line11, line12, line13, line14, line15, line16, Urn.g_cells, Urn.g_at, Urn.g_deep, Urn.g_mix, Urn.g_turn, Urn.d_at, Urn.d_turn, Urn.p_at, Urn.p_deep, Urn.p_mix, Urn.p_turn, eq_int, ne_int, eq_bool, ne_bool, ten18, ten15, lenF, runFn, obT, at_aug, at_mForI1, ite_app, bind_ite, Sr.ty, Sr.st, Sr.rt, Sr.lg, Sr.lo, Sr.g0, Sr.g1, Sr.g2, Sr.s0, Sr.s2, Sr.tst, Sr.trt, Int.natCast_one, Int.natCast_zero, Int.cast_ofNat_Int, Int.reduceEq, Int.reduceLT, Int.reduceLE, Int.reduceAdd, Int.reduceSub, Int.reduceMul, Int.reduceNeg, reduceCtorEq, Int.reducePow, Int.reduceToNat, $args,*])
  | `(tactic| simp_arith [$args,*] at $h:ident) => `(tactic| simp only [at_bind, at_ok, at_er, at_no, at_var, at_k, at_op, at_un, at_lk, at_opt, at_nil, at_cons, at_b, at_lks0, at_lks1, at_test, at_toTs0, at_toTs1, at_toTv, at_toTf, at_toTl, at_notT, ltl0, ltl1, ltl2, ltl3, ltl4, ltl5, ltl6, ltl7, ltl8, ltl9, ltl10, ltl11, ltl12, ltl13, ltl14, ltl15, ltl16, at_andT, at_orT, at_if, at_andV, at_orV, at_chain, at_set, at_drop, at_ret, at_pass, at_brk, at_cnt, at_ifS, at_seq, at_putv, at_putf, at_tup, at_lst, at_call, at_callK, at_args0, at_args1, at_argb, at_argt, at_callA, at_unp, at_btup, at_blst, at_bnil, at_bcons, at_bname, at_isi, at_notV, at_par, at_stabs0, at_stabs1, at_stabv, at_stabf, at_puts0, at_puts1, at_daug, at_store, at_chk, at_getE, at_setO, at_modE, at_meth, at_for, at_sval, at_rng1, at_sl, at_po0, at_po1, at_lc, at_dct, at_clear0, at_clear1, at_lc0, at_nox, at_yes, at_for0, at_aft_nx, at_aft_ct, at_aft_bk, at_aft_rt, at_wip0, at_wip1, Bool.and_true, look, List.getElem?_cons_zero, List.getElem?_cons_succ, List.getElem?_nil, List.set_cons_zero, List.set_cons_succ, List.set_nil, List.length_cons, List.length_nil, List.length_map, List.cons_append, List.nil_append, List.length_set, addF, subF, negF, ltF, leF, gtF, geF, isF, isnF, isNF, gcdF, absF, intF, iaddF, isiF, isi, Option.map_some, Option.map_none, Option.bind_some, Ob.data, keyT, List.map_cons, List.map_nil, argsS, bIdx, back, likeA, List.nodup_nil, List.nodup_cons, List.not_mem_nil, not_false_eq_true, and_self, and_true, true_and, if_true, if_false, ite_true, ite_false, ↓reduceIte, Bool.not_true, Bool.not_false, Bool.false_eq_true, decide_true, decide_false, Ev.finish, endOf, retOf, leave, enter, tagA, Ev.strip, retag, List.replicate, Nat.reduceAdd, Nat.reduceSub, Nat.reduceLT, Nat.reduceLeDiff, Nat.reduceEqDiff, permL, liftO, liftG, Urn.ty, Urn.st, Urn.lg, Urn.lo, eq_self, Urn.rt, line0, line1, line2, line3, line4, line5, line6, line7, line8, line9, line10, line11, line12, line13, line14, line15, line16, Urn.g_cells, Urn.g_at, Urn.g_deep, Urn.g_mix, Urn.g_turn, Urn.d_at, Urn.d_turn, Urn.p_at, Urn.p_deep, Urn.p_mix, Urn.p_turn, eq_int, ne_int, eq_bool, ne_bool, ten18, ten15, lenF, runFn, obT, at_aug, at_mForI1, ite_app, bind_ite, Sr.ty, Sr.st, Sr.rt, Sr.lg, Sr.lo, Sr.g0, Sr.g1, Sr.g2, Sr.s0, Sr.s2, Sr.tst, Sr.trt, Int.natCast_one, Int.natCast_zero, Int.cast_ofNat_Int, Int.reduceEq, Int.reduceLT, Int.reduceLE, Int.reduceAdd, Int.reduceSub, Int.reduceMul, Int.reduceNeg, reduceCtorEq, Int.reducePow, Int.reduceToNat, $args,*] at $h:ident)
/-! ### the words -/
inductive W where
  | less | most | equal | whole | rest | not | both | either | some | every
deriving DecidableEq
def W.s : W → PySem.Str
  | .less => "less"
  | .most => "most"
  | .equal => "equal"
  | .whole => "whole"
  | .rest => "rest"
  | .not => "not"
  | .both => "both"
  | .either => "either"
  | .some => "some"
  | .every => "every"
def W.isS : W → Bool
  | .less => true
  | .most => true
  | .equal => true
  | _ => false
def W.isB : W → Bool
  | .both => true
  | .either => true
  | _ => false
def W.isJ : W → Bool
  | .not => true
  | .both => true
  | .either => true
  | _ => false
def W.isT : W → Bool
  | .some => true
  | .every => true
  | _ => false
theorem W.s_ok (w : W) : PySem.PyData.strOk w.s = true := by cases w <;> decide +kernel
theorem inS (w : W) : inF (.str w.s) K_SUMS = some (.v (.bool w.isS)) := by cases w <;> rfl
theorem inT (w : W) : inF (.str w.s) K_TRIED = some (.v (.bool w.isT)) := by cases w <;> rfl
theorem ninT (w : W) : ninF (.str w.s) K_TRIED = some (.v (.bool (!w.isT))) := by cases w <;> rfl
theorem inJ (w : W) : cinF K_JOINED (.str w.s) = some (.v (.bool w.isJ)) := by cases w <;> rfl
theorem ninJ (w : W) : cninF K_JOINED (.str w.s) = some (.v (.bool (!w.isJ))) := by cases w <;> rfl
theorem getN : cgetF K_JOINED (.str W.not.s) = some (.v (.int 1)) := by rfl
theorem getB {w : W} (h : w.isB = true) : cgetF K_JOINED (.str w.s) = some (.v (.int 2)) := by cases w <;> first | rfl | cases h
theorem eqW (w v : W) : eqF (.str w.s) (.str v.s) = some (.v (.bool (decide (w = v)))) := by
  rw [eq_str w.s_ok v.s_ok]
  cases w <;> cases v <;> rfl
theorem eq_rest (w : W) : eqF (.str w.s) (.str "rest") = some (.v (.bool (decide (w = .rest)))) := eqW w .rest
theorem eq_whole (w : W) : eqF (.str w.s) (.str "whole") = some (.v (.bool (decide (w = .whole)))) := eqW w .whole
theorem eq_less (w : W) : eqF (.str w.s) (.str "less") = some (.v (.bool (decide (w = .less)))) := eqW w .less
theorem eq_most (w : W) : eqF (.str w.s) (.str "most") = some (.v (.bool (decide (w = .most)))) := eqW w .most
theorem eq_equal (w : W) : eqF (.str w.s) (.str "equal") = some (.v (.bool (decide (w = .equal)))) := eqW w .equal
theorem eq_not (w : W) : eqF (.str w.s) (.str "not") = some (.v (.bool (decide (w = .not)))) := eqW w .not
theorem eq_both (w : W) : eqF (.str w.s) (.str "both") = some (.v (.bool (decide (w = .both)))) := eqW w .both
theorem isS_J {w : W} (h : w.isS = true) : w.isJ = false := by cases w <;> first | rfl | cases h
theorem isS_T {w : W} (h : w.isS = true) : w.isT = false := by cases w <;> first | rfl | cases h
theorem isB_J {w : W} (h : w.isB = true) : w.isJ = true := by cases w <;> first | rfl | cases h
theorem isB_S {w : W} (h : w.isB = true) : w.isS = false := by cases w <;> first | rfl | cases h
theorem isB_T {w : W} (h : w.isB = true) : w.isT = false := by cases w <;> first | rfl | cases h
theorem isT_J {w : W} (h : w.isT = true) : w.isJ = false := by cases w <;> first | rfl | cases h
theorem isT_S {w : W} (h : w.isT = true) : w.isS = false := by cases w <;> first | rfl | cases h
/-! ### sayings -/
inductive Say where
  | sum (w : W) (a b c l : Int)
  | whole (i : Int)
  | rest (i m r : Int)
  | neg (s : Say)
  | two (w : W) (s t : Say)
  | q (w : W) (i : Int) (s : Say)
def Say.t : Say → T
  | .sum w a b c l => .tuple [.str w.s, .tuple [.int a, .int b, .int c], .int l]
  | .whole i => .tuple [.str W.whole.s, .int i]
  | .rest i m r => .tuple [.str W.rest.s, .int i, .int m, .int r]
  | .neg s => .tuple [.str W.not.s, s.t]
  | .two w s t => .tuple [.str w.s, s.t, t.t]
  | .q w i s => .tuple [.str w.s, .int i, s.t]
def Say.Ok : Say → Prop
  | .sum w _ _ _ _ => w.isS = true
  | .whole i => 0 ≤ i ∧ i < 3
  | .rest i m r => (0 ≤ i ∧ i < 3) ∧ 2 ≤ m ∧ 0 ≤ r ∧ r < m
  | .neg s => s.Ok
  | .two w s t => w.isB = true ∧ s.Ok ∧ t.Ok
  | .q w i s => w.isT = true ∧ (0 ≤ i ∧ i < 3) ∧ s.Ok
def Say.sz : Say → Nat
  | .sum _ _ _ _ _ => 1
  | .whole _ => 1
  | .rest _ _ _ => 1
  | .neg s => s.sz + 1
  | .two _ s t => s.sz + t.sz + 1
  | .q _ _ s => s.sz + 1
def Say.inn : Say → List Say
  | .neg s => [s]
  | .two _ s t => [s, t]
  | .q _ _ s => [s]
  | _ => []
def Say.atom : Say → Bool
  | .sum _ _ _ _ _ => true
  | .whole _ => true
  | .rest _ _ _ => true
  | _ => false
theorem Say.sz_pos (s : Say) : 1 ≤ s.sz := by cases s <;> simp [Say.sz]
theorem Say.inn_ok {s : Say} (h : s.Ok) : ∀ p ∈ s.inn, p.Ok ∧ p.sz < s.sz := by
  intro p m
  cases s with
  | neg s => simp only [Say.inn, List.mem_singleton] at m; subst m; exact ⟨h, by simp [Say.sz]⟩
  | two w s t =>
    simp only [Say.inn, List.mem_cons, List.not_mem_nil, or_false] at m
    rcases m with rfl | rfl
    · exact ⟨h.2.1, by simp only [Say.sz]; omega⟩
    · exact ⟨h.2.2, by simp only [Say.sz]; omega⟩
  | q w i s => simp only [Say.inn, List.mem_singleton] at m; subst m; exact ⟨h.2.2, by simp [Say.sz]⟩
  | _ => cases m
theorem Say.inn_sz (s : Say) : (s.inn.map Say.sz).sum + 1 = s.sz := by cases s <;> simp [Say.inn, Say.sz] 
theorem Say.inn_len (s : Say) : s.inn.length ≤ 2 := by cases s <;> simp [Say.inn]
section
variable {Γ : String → Option Fn}
theorem r_isint (H : Has Γ) {m : Nat} (hm : 1 ≤ m) (i : Int) : callN Γ m "is_integer" [.v (.int i)] = .rt (.v (.bool true)) [.v (.int i)] := by
  obtain ⟨n, rfl⟩ : ∃ n, m = n + 1 := ⟨m - 1, by omega⟩
  obtain ⟨k, hk⟩ := H.is_integer
  rw [callN_eq hk]
  simp_arith [fn_is_integer, cd_is_integer]
theorem r_below (H : Has Γ) {m : Nat} (hm : 2 ≤ m) {i j : Int} (h0 : 0 ≤ i) (h1 : i < j) : callN Γ m "is_below" [.v (.int i), .v (.int j)] = .rt (.v (.bool true)) [.v (.int i), .v (.int j)] := by
  obtain ⟨n, rfl⟩ : ∃ n, m = n + 1 := ⟨m - 1, by omega⟩
  obtain ⟨k, hk⟩ := H.is_below
  rw [callN_eq hk]
  have e := r_isint H (m := n) (by omega) i
  simp_arith [fn_is_below, cd_is_below, e, h0, h1]
theorem r_sum (H : Has Γ) {m : Nat} (hm : 2 ≤ m) (w : W) (a b c l : Int) : callN Γ m "is_sum" [.v (Say.sum w a b c l).t] = .rt (.v (.bool true)) [.v (Say.sum w a b c l).t] := by
  obtain ⟨n, rfl⟩ : ∃ n, m = n + 1 := ⟨m - 1, by omega⟩
  obtain ⟨k, hk⟩ := H.is_sum
  rw [callN_eq hk]
  have e := r_isint H (m := n) (by omega)
  simp_arith [fn_is_sum, cd_is_sum, at_lc1, e, Say.t, ix30, ix31, ix32, itemsOf, allF, boolsOf, List.all_cons, List.all_nil, id]
theorem r_formed (H : Has Γ) {m : Nat} (hm : 3 ≤ m) {s : Say} (h : s.Ok) (ha : s.atom = true) : callN Γ m "is_atom_formed" [.v s.t] = .rt (.v (.bool true)) [.v s.t] := by
  obtain ⟨n, rfl⟩ : ∃ n, m = n + 1 := ⟨m - 1, by omega⟩
  obtain ⟨k, hk⟩ := H.is_atom_formed
  rw [callN_eq hk]
  have e := r_isint H (m := n) (by omega)
  cases s with
  | sum w a b c l =>
    have e2 := r_sum H (m := n) (by omega) w a b c l
    rw [Say.t] at e2
    simp_arith [fn_is_atom_formed, cd_is_atom_formed, e2, Say.t, ix30, ix31, ix32, inS, (show w.isS = true from h)]
  | whole i =>
    have e2 := r_below H (m := n) (by omega) h.1 h.2
    simp_arith [fn_is_atom_formed, cd_is_atom_formed, e2, Say.t, ix20, ix21, inS, W.isS, eq_rest, eq_whole, reduceCtorEq]
  | rest i m r =>
    have e2 := r_below H (m := n) (by omega) h.1.1 h.1.2
    have e3 := r_below H (m := n) (by omega) h.2.2.1 h.2.2.2
    simp_arith [fn_is_atom_formed, cd_is_atom_formed, e, e2, e3, Say.t, ix40, ix41, ix42, ix43, inS, W.isS, eq_rest, eq_whole, reduceCtorEq, h.2.1]
  | neg s => cases ha
  | two w s t => cases ha
  | q w i s => cases ha
theorem r_inner (H : Has Γ) {m : Nat} (hm : 4 ≤ m) {s : Say} (h : s.Ok) : callN Γ m "inner_of" [.v s.t] = .rt (.v (.tuple (s.inn.map Say.t))) [.v s.t] := by
  obtain ⟨n, rfl⟩ : ∃ n, m = n + 1 := ⟨m - 1, by omega⟩
  obtain ⟨k, hk⟩ := H.inner_of
  rw [callN_eq hk]
  cases s with
  | sum w a b c l =>
    have e2 := r_formed H (m := n) (by omega) h rfl
    rw [Say.t] at e2
    simp_arith [fn_inner_of, cd_inner_of, e2, Say.t, Say.inn, ix30, ix31, ix32, inJ, inT, isS_J h, isS_T h]
  | whole i =>
    have e2 := r_formed H (m := n) (by omega) h rfl
    rw [Say.t] at e2
    simp_arith [fn_inner_of, cd_inner_of, e2, Say.t, Say.inn, ix20, ix21, inJ, inT, W.isJ, W.isT]
  | rest i m r =>
    have e2 := r_formed H (m := n) (by omega) h rfl
    rw [Say.t] at e2
    simp_arith [fn_inner_of, cd_inner_of, e2, Say.t, Say.inn, ix40, ix41, inJ, inT, W.isJ, W.isT]
  | neg s =>
    simp_arith [fn_inner_of, cd_inner_of, Say.t, Say.inn, ix20, ix21, inJ, inT, W.isJ, W.isT, getN, slF, cut2_1]
  | two w s t =>
    simp_arith [fn_inner_of, cd_inner_of, Say.t, Say.inn, ix30, ix31, inJ, inT, isB_J h.1, isB_T h.1, getB h.1, slF, cut3_1]
  | q w i s =>
    have e2 := r_below H (m := n) (by omega) h.2.1.1 h.2.1.2
    simp_arith [fn_inner_of, cd_inner_of, Say.t, Say.inn, ix30, ix31, inJ, inT, isT_J h.1, (show w.isT = true from h.1), e2, slF, cut3_2]
theorem pop_snoc (ts : List T) (x : T) : popF [] (.lst (ts ++ [x])) = some (.lst ts, x) := by
  simp [popF]
theorem ext_tup {ts us : List T} (h : ts.length + us.length ≤ PySem.sizeLine) : extF [.tuple us] (.lst ts) = some (.lst (ts ++ us), .none) := by
  simp only [extF, seqT, Option.bind_some, if_pos h]
theorem lift_lst (f : Ob → Option (Ob × T)) (ts : List T) : lift f (.lst ts) = f (.lst ts) := id rfl
abbrev wt (r : List Say) : Nat := (r.map Say.sz).sum
theorem wt_len : ∀ r : List Say, r.length ≤ wt r
  | [] => Nat.le_refl _
  | s :: r => by
    have := wt_len r
    have := s.sz_pos
    simp only [wt, List.map_cons, List.sum_cons, List.length_cons] at *
    omega
theorem wt_app (r u : List Say) : wt (r ++ u) = wt r + wt u := by simp [wt]
theorem wt_rev (r : List Say) : wt r.reverse = wt r := by
  induction r with
  | nil => rfl
  | cons s r ih => rw [List.reverse_cons, wt_app, ih]; simp [wt]; omega
theorem line_big : (1000000 : Nat) ≤ PySem.sizeLine := by decide
theorem r_saying (H : Has Γ) {m : Nat} (hm : 5 ≤ m) {s : Say} (h : s.Ok) (hz : s.sz ≤ 1000) : callN Γ m "is_saying" [.v s.t] = .rt (.v (.bool true)) [.v s.t] := by
  obtain ⟨n, rfl⟩ : ∃ n, m = n + 1 := ⟨m - 1, by omega⟩
  obtain ⟨k, hk⟩ := H.is_saying
  rw [callN_eq hk]
  obtain ⟨⟨r, x⟩, e, p, c⟩ := while_by (C := (mTest (mOp gtF (mB lenF (mCons (mVar 1) mNil)) (mK (.int 0))))) (B := (mSeq (mSet 2 (mCall (callN Γ n) "inner_of" [false] (mCons (mMeth 1 "list" popF mNil) mNil)))
    (mSeq (mIfS (mTest (mOp isF (mVar 2) (mK .none))) (mRet (mK (.bool false))) mPass)
    (mDrop (mMeth 1 "list" extF (mCons (mVar 2) mNil)))))) (σ := List Say × Sl) (fun z => [.v s.t, .own (.lst (z.1.reverse.map Say.t)), z.2]) (fun z => (∀ p ∈ z.1, p.Ok) ∧ wt z.1 ≤ 1000) (fun z => wt z.1) (fun z => decide (0 < z.1.length))
    (fun z => match z.1 with | [] => z | p :: r => (p.inn.reverse ++ r, .v (.tuple (p.inn.map Say.t))))
    (fun z _ => by
      obtain ⟨r, x⟩ := z
      simp_arith [List.length_reverse]
      congr 1
      simp)
    (fun z p c => by
      obtain ⟨r, x⟩ := z
      cases r with
      | nil => simp at c
      | cons p1 r =>
        obtain ⟨ok, hw⟩ := p
        have o1 := ok p1 List.mem_cons_self
        have e1 := r_inner H (m := n) (by omega) o1
        have hw' : p1.sz + wt r ≤ 1000 := by simpa [wt] using hw
        have hi := p1.inn_sz
        have hl := wt_len r
        have w2 : wt (p1.inn.reverse ++ r) + 1 = p1.sz + wt r := by
          rw [wt_app, wt_rev]; show wt p1.inn + wt r + 1 = _; simp only [wt] at *; omega
        have hx : (r.reverse.map Say.t).length + (p1.inn.map Say.t).length ≤ PySem.sizeLine := by
          have := p1.inn_len
          have := line_big
          simp only [List.length_map, List.length_reverse]
          omega
        refine ⟨?_, ⟨fun q m => ?_, ?_⟩, ?_⟩
        · have e2 : (p1 :: r).reverse.map Say.t = r.reverse.map Say.t ++ [p1.t] := by simp
          have e3 : (p1.inn.reverse ++ r).reverse.map Say.t = r.reverse.map Say.t ++ p1.inn.map Say.t := by simp
          simp_arith [e2, e3, lift_lst, pop_snoc, e1, ext_tup hx]
        · rcases List.mem_append.mp m with m | m
          · exact (Say.inn_ok o1 q (List.mem_reverse.mp m)).1
          · exact ok q (List.mem_cons_of_mem _ m)
        · show wt (p1.inn.reverse ++ r) ≤ 1000
          omega
        · show wt (p1.inn.reverse ++ r) < wt (p1 :: r)
          have : wt (p1 :: r) = p1.sz + wt r := by simp [wt]
          omega) 1000 ([s], .non) (by simpa [wt] using hz) ⟨fun p m => by rw [List.mem_singleton] at m; subst m; exact h, by simpa [wt] using hz⟩
  have e0 : ([s] : List Say).reverse.map Say.t = [s.t] := rfl
  rw [e0] at e
  simp_arith [fn_is_saying, cd_is_saying, e]
theorem r_check (H : Has Γ) {m : Nat} (hm : 6 ≤ m) {s : Say} (h : s.Ok) (hz : s.sz ≤ 1000) : callN Γ m "check_saying" [.v s.t] = .rt (.v .none) [.v s.t] := by
  obtain ⟨n, rfl⟩ : ∃ n, m = n + 1 := ⟨m - 1, by omega⟩
  obtain ⟨k, hk⟩ := H.check_saying
  rw [callN_eq hk]
  have e := r_saying H (m := n) (by omega) h hz
  simp_arith [fn_check_saying, cd_check_saying, e]
theorem r_parts_in (H : Has Γ) {m : Nat} (hm : 1 ≤ m) {s : Say} (h : s.Ok) : callN Γ m "inner_parts" [.v s.t] = .rt (.v (.tuple (s.inn.map Say.t))) [.v s.t] := by
  obtain ⟨n, rfl⟩ : ∃ n, m = n + 1 := ⟨m - 1, by omega⟩
  obtain ⟨k, hk⟩ := H.inner_parts
  rw [callN_eq hk]
  cases s with
  | sum w a b c l => simp_arith [fn_inner_parts, cd_inner_parts, Say.t, Say.inn, ix30, inJ, inT, isS_J h, isS_T h]
  | whole i => simp_arith [fn_inner_parts, cd_inner_parts, Say.t, Say.inn, ix20, inJ, inT, W.isJ, W.isT]
  | rest i m r => simp_arith [fn_inner_parts, cd_inner_parts, Say.t, Say.inn, ix40, inJ, inT, W.isJ, W.isT]
  | neg s => simp_arith [fn_inner_parts, cd_inner_parts, Say.t, Say.inn, ix20, inJ, inT, W.isJ, W.isT, slF, cut2_1]
  | two w s t => simp_arith [fn_inner_parts, cd_inner_parts, Say.t, Say.inn, ix30, inJ, inT, isB_J h.1, isB_T h.1, slF, cut3_1]
  | q w i s => simp_arith [fn_inner_parts, cd_inner_parts, Say.t, Say.inn, ix30, inJ, inT, isT_J h.1, (show w.isT = true from h.1), slF, cut3_2]
theorem r_atom (H : Has Γ) {m : Nat} (hm : 1 ≤ m) {s : Say} (h : s.Ok) : callN Γ m "is_atom" [.v s.t] = .rt (.v (.bool s.atom)) [.v s.t] := by
  obtain ⟨n, rfl⟩ : ∃ n, m = n + 1 := ⟨m - 1, by omega⟩
  obtain ⟨k, hk⟩ := H.is_atom
  rw [callN_eq hk]
  cases s with
  | sum w a b c l => simp_arith [fn_is_atom, cd_is_atom, Say.t, Say.atom, ix30, ninJ, ninT, isS_J h, isS_T h]
  | whole i => simp_arith [fn_is_atom, cd_is_atom, Say.t, Say.atom, ix20, ninJ, ninT, W.isJ, W.isT]
  | rest i m r => simp_arith [fn_is_atom, cd_is_atom, Say.t, Say.atom, ix40, ninJ, ninT, W.isJ, W.isT]
  | neg s => simp_arith [fn_is_atom, cd_is_atom, Say.t, Say.atom, ix20, ninJ, ninT, W.isJ, W.isT]
  | two w s t => simp_arith [fn_is_atom, cd_is_atom, Say.t, Say.atom, ix30, ninJ, ninT, isB_J h.1, isB_T h.1]
  | q w i s => simp_arith [fn_is_atom, cd_is_atom, Say.t, Say.atom, ix30, ninJ, ninT, isT_J h.1, (show w.isT = true from h.1)]
/-! ### the variables -/
def co (a b c : Int) (i : Int) : Int := if i = 0 then a else if i = 1 then b else c
def nz (a b c : Int) (i : Int) : Bool := !decide (co a b c i = 0)
theorem ix_co (a b c : Int) {i : Int} (h0 : 0 ≤ i) (h1 : i < 3) : ixF (.tuple [.int a, .int b, .int c]) (.int i) = some (.v (.int (co a b c i))) := by
  have : i = 0 ∨ i = 1 ∨ i = 2 := by omega
  rcases this with rfl | rfl | rfl <;> rfl
def fv : Say → Int → Bool
  | .sum _ a b c _, i => nz a b c i
  | .whole j, i => decide (i = j)
  | .rest j _ _, i => decide (i = j)
  | .neg s, i => fv s i
  | .two _ s t, i => fv s i || fv t i
  | .q _ j s, i => fv s i && !decide (i = j)
def fl (s : Say) : List Int := asc (fv s)
def flT (s : Say) : List T := (fl s).map .int
theorem mem3 {i : Int} (m : i ∈ ([0, 1, 2] : List Int)) : 0 ≤ i ∧ i < 3 := by
  simp only [List.mem_cons, List.not_mem_nil, or_false] at m; omega
theorem asc_one {j : Int} (h0 : 0 ≤ j) (h1 : j < 3) : asc (fun i => decide (i = j)) = [j] := by
  have : j = 0 ∨ j = 1 ∨ j = 2 := by omega
  rcases this with rfl | rfl | rfl <;> rfl
theorem r_vars (H : Has Γ) {m : Nat} (hm : 1 ≤ m) {s : Say} (h : s.Ok) (ha : s.atom = true) : callN Γ m "variables_of" [.v s.t] = .rt (.v (.tuple (flT s))) [.v s.t] := by
  obtain ⟨n, rfl⟩ : ∃ n, m = n + 1 := ⟨m - 1, by omega⟩
  obtain ⟨k, hk⟩ := H.variables_of
  rw [callN_eq hk]
  cases s with
  | sum w a b c l =>
    have l2 := lc_filter (i := 1) (env := [.v (Say.sum w a b c l).t, .non]) (C := (mTest (mOp neF (mOp ixF (mOp ixF (mVar 0) (mK (.int 1))) (mVar 1)) (mK (.int 0))))) (E := mVar 1) rfl T.int T.int (nz a b c) [0, 1, 2]
      (fun i m => by simp_arith [Say.t, ix31, ix_co a b c (mem3 m).1 (mem3 m).2, nz]) (fun i m _ => by simp_arith []) (by decide)
    rw [show ([0, 1, 2] : List Int).map T.int = rngTs 0 3 from rfl, Say.t] at l2
    simp_arith [fn_variables_of, cd_variables_of, l2, tupleF, Say.t, ix30, inS, (show w.isS = true from h)]
    rfl
  | whole i => simp_arith [fn_variables_of, cd_variables_of, Say.t, ix20, inS, W.isS, slF, cut2_12, flT, fl, fv, asc_one h.1 h.2]
  | rest i m r => simp_arith [fn_variables_of, cd_variables_of, Say.t, ix40, inS, W.isS, slF, cut4_12, flT, fl, fv, asc_one h.1.1 h.1.2]
  | neg s => cases ha
  | two w s t => cases ha
  | q w i s => cases ha
theorem fl_ok (s : Say) : KOk (fl s) := asc_ok _
theorem folds_ok {us : List Int} (h : ∀ i ∈ us, 0 ≤ i ∧ i < 3) : ∀ {ks : List Int}, KOk ks → KOk (us.foldl addK ks) := by
  induction us with
  | nil => intro ks k; exact k
  | cons u us ih => intro ks k; exact ih (fun i m => h i (List.mem_cons_of_mem _ m)) (addK_ok k (h u List.mem_cons_self).1 (h u List.mem_cons_self).2)
def kin (s : Say) : List Int := s.inn.foldl (fun ks p => (fl p).foldl addK ks) []
theorem mem_kin (i : Int) : ∀ (ps : List Say) (ks : List Int), i ∈ ps.foldl (fun ks p => (fl p).foldl addK ks) ks ↔ i ∈ ks ∨ ∃ p ∈ ps, i ∈ fl p
  | [], ks => by simp
  | p :: ps, ks => by
    rw [List.foldl_cons, mem_kin i ps, mem_addKs]
    constructor
    · rintro ((h | h) | ⟨q, m, h⟩)
      · exact .inl h
      · exact .inr ⟨p, List.mem_cons_self, h⟩
      · exact .inr ⟨q, List.mem_cons_of_mem _ m, h⟩
    · rintro (h | ⟨q, m, h⟩)
      · exact .inl (.inl h)
      · rcases List.mem_cons.mp m with rfl | m
        · exact .inl (.inr h)
        · exact .inr ⟨q, m, h⟩
theorem r_free (H : Has Γ) {s : Say} {m : Nat} (h : s.Ok) (hm : s.sz + 1 ≤ m) : callN Γ m "free_of" [.v s.t] = .rt (.v (.tuple (flT s))) [.v s.t] := by
  have main : ∀ (d : Nat) (s : Say) (m : Nat), s.sz ≤ d → s.Ok → s.sz + 1 ≤ m → callN Γ m "free_of" [.v s.t] = .rt (.v (.tuple (flT s))) [.v s.t] := by
    intro d
    induction d with
    | zero => intro s m hd; have := s.sz_pos; omega
    | succ d ih =>
      intro s m hd h hm
      have hz := s.sz_pos
      obtain ⟨n, rfl⟩ : ∃ n, m = n + 1 := ⟨m - 1, by omega⟩
      obtain ⟨k, hk⟩ := H.free_of
      rw [callN_eq hk]
      have e1 := r_atom H (m := n) (by omega) h
      cases ha : s.atom with
      | true =>
        have e2 := r_vars H (m := n) (by omega) h ha
        rw [ha] at e1
        simp_arith [fn_free_of, cd_free_of, e1, e2]
      | false =>
        rw [ha] at e1
        have ei := r_parts_in H (m := n) (by omega) h
        have hS : (sVal (mCall (callN Γ n) "inner_parts" [false] (mCons (mVar 0) mNil))) [.v s.t, .non, .non, .non] = .ok (s.inn.map Say.t) [.v s.t, .non, .non, .non] := by simp_arith [ei, itemsOf]
        have o := lc2out_fold (L := (leafD (mVar 3) (mK (.bool true)))) (i := 2) (j := 3) (env := [.v s.t, .non, .non, .non]) rfl rfl (by decide) ((sVal (mCall (callN Γ n) "free_of" [false] (mCons (mVar 2) mNil)))) dkO Say.t flT (fun ks p => (fl p).foldl addK ks) KOk s.inn [] ⟨List.nodup_nil, fun i m => by cases m⟩
          (fun ks p m hk => by
            obtain ⟨o1, z1⟩ := Say.inn_ok h p m
            have e3 := ih p n (by omega) o1 (by omega)
            refine ⟨by simp_arith [e3, itemsOf], ?_⟩
            exact lc2in_fold (j := 3) (env := [.v s.t, .non, .v p.t, .non]) rfl dkO T.int addK KOk (fl p) ks hk fun ks i m hk => ⟨leaf_dk rfl hk, addK_ok hk ((fl_ok p).2 i m).1 ((fl_ok p).2 i m).2⟩)
        have e4 : (mLc2 (sVal (mCall (callN Γ n) "inner_parts" [false] (mCons (mVar 0) mNil))) (bName 2) cYes (sVal (mCall (callN Γ n) "free_of" [false] (mCons (mVar 2) mNil))) (bName 3) cYes (leafD (mVar 3) (mK (.bool true))) [2, 3] [3] (.dct [])) [.v s.t, .non, .non, .non] = .ok (.fr (dkO (kin s))) [.v s.t, .non, .non, .non] := by
          rw [at_lc2, hS, at_ok]
          show R.bind (lc2out _ _ _ _ _ _ _ _ (dkO []) _ _) _ = _
          rw [o.1]
          rfl
        have hK : KOk (kin s) := o.2
        have mk := fun i => mem_kin i s.inn []
        cases s with
        | sum w a b c l => cases ha
        | whole i => cases ha
        | rest i m r => cases ha
        | neg s =>
          rw [Say.t] at e1 e4
          have sa := sort_asc hK (f := fv s) fun i h0 h1 => by
            rw [kin, mk i]
            simp [Say.inn, fl, mem_asc, h0, h1]
          have so := dkO_sort hK
          simp_arith [fn_free_of, cd_free_of, e1, e4, Say.t, ix20, inT, W.isT, dkO_data, so, tupleF, sa]
          rfl
        | two w s t =>
          rw [Say.t] at e1 e4
          have sa := sort_asc hK (f := fun i => fv s i || fv t i) fun i h0 h1 => by
            rw [kin, mk i]
            simp [Say.inn, fl, mem_asc, h0, h1]
          have so := dkO_sort hK
          simp_arith [fn_free_of, cd_free_of, e1, e4, Say.t, ix30, inT, isB_T h.1, dkO_data, so, tupleF, sa]
          rfl
        | q w j s =>
          rw [Say.t] at e1 e4
          have hK2 : KOk ((kin (.q w j s)).filter fun k => decide (k ≠ j)) := ⟨List.Pairwise.filter _ hK.1, fun i m => hK.2 i (List.mem_filter.mp m).1⟩
          have sa := sort_asc hK2 (f := fun i => fv s i && !decide (i = j)) fun i h0 h1 => by
            rw [List.mem_filter, kin, mk i]
            simp [Say.inn, fl, mem_asc, h0, h1]
          have so := dkO_sort hK2
          simp_arith [fn_free_of, cd_free_of, e1, e4, Say.t, ix30, ix31, inT, (show w.isT = true from h.1), dkO_ty, dkO_lift, dkO_pop, dkO_data, so, tupleF, sa]
          rfl
  exact main s.sz s m (Nat.le_refl _) h hm
/-! ### the parts -/
def Say.hd : Say → W
  | .sum w _ _ _ _ => w
  | .whole _ => .whole
  | .rest _ _ _ => .rest
  | .neg _ => .not
  | .two w _ _ => w
  | .q w _ _ => w
theorem ix_hd (s : Say) : ixF s.t (.int 0) = some (.v (.str s.hd.s)) := by cases s <;> rfl
def parts : Say → List Say
  | .neg s => parts s ++ [.neg s]
  | .two w s t => parts s ++ parts t ++ [.two w s t]
  | .q w i s => parts s ++ [.q w i s]
  | s => [s]
theorem parts_len : ∀ s : Say, (parts s).length = s.sz
  | .sum _ _ _ _ _ => rfl
  | .whole _ => rfl
  | .rest _ _ _ => rfl
  | .neg s => by rw [parts, List.length_append, parts_len s]; rfl
  | .two _ s t => by rw [parts, List.length_append, List.length_append, parts_len s, parts_len t]; rfl
  | .q _ _ s => by rw [parts, List.length_append, parts_len s]; rfl
theorem parts_eq (s : Say) : parts s = s.inn.flatMap parts ++ [s] := by cases s <;> simp [parts, Say.inn]
def plain : Say → Bool
  | .neg s => plain s
  | .two _ s t => plain s && plain t
  | .q _ _ _ => false
  | _ => true
theorem parts_plain : ∀ s : Say, s.Ok → ((parts s).all fun p => !p.hd.isT) = plain s
  | .sum w _ _ _ _, h => by
    have := isS_T h
    simp [parts, plain, Say.hd, this]
  | .whole _, _ => rfl
  | .rest _ _ _, _ => rfl
  | .neg s, h => by rw [parts, List.all_append, parts_plain s h]; simp [plain, Say.hd, W.isT]
  | .two w s t, h => by
    have := isB_T h.1
    rw [parts, List.all_append, List.all_append, parts_plain s h.2.1, parts_plain t h.2.2]; simp [plain, Say.hd, this]
  | .q w _ s, h => by
    have : w.isT = true := h.1
    rw [parts, List.all_append]; simp [plain, Say.hd, this]
theorem r_parts (H : Has Γ) {s : Say} {m : Nat} (h : s.Ok) (hm : s.sz + 1 ≤ m) (hz : s.sz ≤ 1000) : callN Γ m "parts_of" [.v s.t] = .rt (.v (.tuple ((parts s).map Say.t))) [.v s.t] := by
  have main : ∀ (d : Nat) (s : Say) (m : Nat), s.sz ≤ d → s.sz ≤ 1000 → s.Ok → s.sz + 1 ≤ m → callN Γ m "parts_of" [.v s.t] = .rt (.v (.tuple ((parts s).map Say.t))) [.v s.t] := by
    intro d
    induction d with
    | zero => intro s m hd; have := s.sz_pos; omega
    | succ d ih =>
      intro s m hd hz h hm
      have hp := s.sz_pos
      obtain ⟨n, rfl⟩ : ∃ n, m = n + 1 := ⟨m - 1, by omega⟩
      obtain ⟨k, hk⟩ := H.parts_of
      rw [callN_eq hk]
      have ei := r_parts_in H (m := n) (by omega) h
      have hS : (sVal (mCall (callN Γ n) "inner_parts" [false] (mCons (mVar 0) mNil))) [.v s.t, .non, .non, .non] = .ok (s.inn.map Say.t) [.v s.t, .non, .non, .non] := by simp_arith [ei, itemsOf]
      have hl : (s.inn.flatMap fun p => (parts p).map Say.t).length ≤ 1000 := by
        have e : (s.inn.flatMap fun p => (parts p).map Say.t) = (s.inn.flatMap parts).map Say.t := by rw [List.map_flatMap]
        have := parts_len s
        rw [parts_eq, List.length_append, List.length_singleton] at this
        rw [e, List.length_map]; omega
      have lb := line_big
      have o := lc2out_list (i := 2) (j := 3) (env := [.v s.t, .non, .non, .non]) rfl rfl (by decide) ((sVal (mCall (callN Γ n) "parts_of" [false] (mCons (mVar 2) mNil)))) Say.t (fun p => (parts p).map Say.t) s.inn []
        (fun p m => by
          obtain ⟨o1, z1⟩ := Say.inn_ok h p m
          have e3 := ih p n (by omega) (by omega) o1 (by omega)
          simp_arith [e3, itemsOf]) (by simpa using (show (s.inn.flatMap fun p => (parts p).map Say.t).length ≤ PySem.sizeLine by omega))
      have e4 : (mLc2 (sVal (mCall (callN Γ n) "inner_parts" [false] (mCons (mVar 0) mNil))) (bName 2) cYes (sVal (mCall (callN Γ n) "parts_of" [false] (mCons (mVar 2) mNil))) (bName 3) cYes (leafL (mVar 3)) [2, 3] [3] (.lst [])) [.v s.t, .non, .non, .non] = .ok (.fr (.lst ((s.inn.flatMap parts).map Say.t))) [.v s.t, .non, .non, .non] := by
        rw [at_lc2, hS, at_ok]
        show R.bind (lc2out _ _ _ _ _ _ _ _ (.lst []) _ _) _ = _
        rw [o, List.map_flatMap]
        rfl
      have l2 : ((s.inn.flatMap parts).map Say.t).length + 1 ≤ PySem.sizeLine := by
        rw [List.map_flatMap]; omega
      have ap : (s.inn.flatMap parts).map Say.t ++ [s.t] = (parts s).map Say.t := by rw [parts_eq s, List.map_append]; rfl
      generalize (s.inn.flatMap parts).map Say.t = us at e4 ap l2
      simp_arith [fn_parts_of, cd_parts_of, e4, tupleF, l2, ap]
  exact main s.sz s m (Nat.le_refl _) hz h hm
theorem r_plain (H : Has Γ) {s : Say} {m : Nat} (h : s.Ok) (hm : s.sz + 2 ≤ m) (hz : s.sz ≤ 1000) : callN Γ m "is_plain" [.v s.t] = .rt (.v (.bool (plain s))) [.v s.t] := by
  obtain ⟨n, rfl⟩ : ∃ n, m = n + 1 := ⟨m - 1, by omega⟩
  obtain ⟨k, hk⟩ := H.is_plain
  rw [callN_eq hk]
  have e := r_parts H h (m := n) (by omega) hz
  have lb := line_big
  have l := lc_map (i := 1) (env := [.v s.t, .non]) (E := (mOp ninF (mOp ixF (mVar 1) (mK (.int 0))) (mK K_TRIED))) rfl Say.t (fun p => .bool (!p.hd.isT)) (parts s) (fun p _ => by simp_arith [ix_hd, ninT]) (by rw [parts_len]; omega)
  simp_arith [fn_is_plain, cd_is_plain, e, itemsOf, l, all_map, parts_plain s h]
/-! ### truth -/
/-- the product of the bottoms, and the sum over it -/
def prodL (q : Int → Int) : List Int → Int
  | [] => 1
  | i :: l => q i * prodL q l
def sumL (m : Int → Int) (g : Int → Int × Int) : List Int → Int
  | [] => 0
  | i :: l => m i * (g i).1 * prodL (fun i => (g i).2) l + (g i).2 * sumL m g l
def topF (m : Int → Int) (g : Int → Int × Int) (s : Int × Int) (i : Int) : Int × Int := (s.1 * (g i).2 + m i * (g i).1 * s.2, s.2 * (g i).2)
theorem top_fold (m : Int → Int) (g : Int → Int × Int) : ∀ (l : List Int) (t b : Int), l.foldl (topF m g) (t, b) = (t * prodL (fun i => (g i).2) l + b * sumL m g l, b * prodL (fun i => (g i).2) l)
  | [], t, b => by simp [prodL, sumL]
  | i :: l, t, b => by
    rw [List.foldl_cons, topF, top_fold m g l, prodL, sumL]
    refine Prod.ext ?_ ?_
    · show _ = _
      simp only
      grind
    · show _ = _
      simp only
      grind
theorem prod_fold (q : Int → Int) : ∀ (l : List Int) (w : Int), l.foldl (fun w i => w * q i) w = w * prodL q l
  | [], w => by simp [prodL]
  | i :: l, w => by rw [List.foldl_cons, prod_fold q l, prodL, Int.mul_assoc]
theorem sum_fold (m : Int → Int) (g : Int → Int × Int) (W : Int) : ∀ (l : List Int) (t c : Int), (∀ i ∈ l, 1 ≤ (g i).2) → W = c * prodL (fun i => (g i).2) l → l.foldl (fun t i => t + m i * (g i).1 * (W.fdiv (g i).2)) t = t + c * sumL m g l
  | [], t, c, _, _ => by simp [sumL]
  | i :: l, t, c, hq, e => by
    have q0 := hq i List.mem_cons_self
    have e1 : W.fdiv (g i).2 = c * prodL (fun i => (g i).2) l := by
      have : W = (g i).2 * (c * prodL (fun i => (g i).2) l) := by rw [e, prodL]; grind
      rw [this, Int.mul_fdiv_cancel_left _ (by omega)]
    have ih := sum_fold m g W l (t + m i * (g i).1 * (c * prodL (fun i => (g i).2) l)) (c * (g i).2) (fun j h => hq j (List.mem_cons_of_mem _ h)) (by rw [e, prodL]; grind)
    rw [List.foldl_cons, e1, ih, sumL]
    grind
/-- what a law's own reckoning finds: the top of the sum without the limit -/
def topOf (a b c l : Int) (g : Int → Int × Int) : Int := (([0, 1, 2] : List Int).foldl (fun s i => if nz a b c i then topF (co a b c) g s i else s) (-l, 1)).1
def whOf (a b c : Int) (g : Int → Int × Int) (ks : List Int) : Int := ks.foldl (fun w i => w * (if nz a b c i then (g i).2 else 1)) 1
def totOf (a b c l : Int) (g : Int → Int × Int) (ks : List Int) : Int := ks.foldl (fun t i => if nz a b c i then t + co a b c i * (g i).1 * ((whOf a b c g ks).fdiv (g i).2) else t) (-l * whOf a b c g ks)
theorem tot_top (a b c l : Int) (g : Int → Int × Int) (f : Int → Bool) (hq : ∀ i ∈ asc f, 1 ≤ (g i).2) (hf : ∀ i, 0 ≤ i → i < 3 → nz a b c i = true → f i = true) : totOf a b c l g (asc f) = topOf a b c l g := by
  have ef : (asc f).filter (nz a b c) = asc (nz a b c) := by
    unfold asc
    rw [List.filter_filter]
    refine List.filter_congr fun i m => ?_
    cases q : nz a b c i with
    | true => rw [hf i (mem3 m).1 (mem3 m).2 q]; rfl
    | false => rfl
  have e1 : whOf a b c g (asc f) = prodL (fun i => (g i).2) (asc (nz a b c)) := by
    unfold whOf
    have : (fun (w : Int) i => w * (if nz a b c i then (g i).2 else 1)) = fun w i => if nz a b c i then w * (g i).2 else w := by
      funext w i
      split <;> simp
    rw [this, ← List.foldl_filter, ef, prod_fold (fun i => (g i).2), Int.one_mul]
  have e2 : topOf a b c l g = -l * prodL (fun i => (g i).2) (asc (nz a b c)) + 1 * sumL (co a b c) g (asc (nz a b c)) := by
    unfold topOf
    rw [← List.foldl_filter, show ([0, 1, 2] : List Int).filter (nz a b c) = asc (nz a b c) from rfl, top_fold]
  unfold totOf
  rw [← List.foldl_filter, ef, e1, e2]
  refine sum_fold _ g _ _ _ 1 (fun i m => ?_) (by rw [Int.one_mul])
  rw [← ef] at m
  exact hq i (List.mem_filter.mp m).1
def truth (w : W) (t : Int) : Bool := if w = .less then decide (t < 0) else if w = .most then decide (t ≤ 0) else decide (t = 0)
def holds (g : Int → Int × Int) : Say → Bool
  | .sum w a b c l => truth w (topOf a b c l g)
  | .whole i => decide ((g i).2 = 1)
  | .rest i m r => decide ((g i).2 = 1) && decide ((g i).1.fmod m = r)
  | .neg s => !holds g s
  | .two w s t => if w = .both then holds g s && holds g t else holds g s || holds g t
  | .q _ _ _ => false
/-- the numbers of a sum are not too great -/
def Sm : Say → Prop
  | .sum _ a b c l => Bd 200 a ∧ Bd 200 b ∧ Bd 200 c ∧ Bd 200 l
  | .neg s => Sm s
  | .two _ s t => Sm s ∧ Sm t
  | .q _ _ s => Sm s
  | _ => True
def GOk (g : Int → Int × Int) (ks : List Int) : Prop := ∀ i ∈ ks, Red 4000 (g i).1 (g i).2
theorem co_bd {k : Nat} {a b c i : Int} (h : Bd k a ∧ Bd k b ∧ Bd k c) : Bd k (co a b c i) := by
  unfold co; split
  · exact h.1
  · split
    · exact h.2.1
    · exact h.2.2
theorem gT0 (g : Int → Int × Int) (i : Int) : ixF (gT g i) (.int 0) = some (.v (.int (g i).1)) := id rfl
theorem gT1 (g : Int → Int × Int) (i : Int) : ixF (gT g i) (.int 1) = some (.v (.int (g i).2)) := id rfl
theorem r_left (H : Has Γ) {m : Nat} (hm : 1 ≤ m) {a b c l : Int} {g : Int → Int × Int} {f : Int → Bool} (hb : Bd 200 a ∧ Bd 200 b ∧ Bd 200 c ∧ Bd 200 l) (hg : GOk g (asc f)) (hf : ∀ i, 0 ≤ i → i < 3 → nz a b c i = true → f i = true) :
    callN Γ m "sum_left" [.v (.tuple [.int a, .int b, .int c]), .v (.int l), .v (.dict (gv (asc f) g))] = .rt (.v (.int (topOf a b c l g))) [.v (.tuple [.int a, .int b, .int c]), .v (.int l), .v (.dict (gv (asc f) g))] := by
  obtain ⟨n, rfl⟩ : ∃ n, m = n + 1 := ⟨m - 1, by omega⟩
  obtain ⟨k, hk⟩ := H.sum_left
  rw [callN_eq hk]
  have hc : ∀ i, Bd 200 (co a b c i) := fun i => co_bd ⟨hb.1, hb.2.1, hb.2.2.1⟩
  have hl := asc_len f
  obtain ⟨l1, b1⟩ := for_foldI (σ := Int × Sl × Sl) (b := (bTup 2 (bCons (bName 4) (bCons (bName 5) bNil)))) (S := nox ((mSet 3 (mOp mulF (mVar 3) (mIf (mTest (mOp neF (mOp ixF (mVar 0) (mVar 4)) (mK (.int 0)))) (mOp ixF (mVar 5) (mK (.int 1))) (mK (.int 1))))))) (fun s => [.v (.tuple [.int a, .int b, .int c]), .v (.int l), .v (.dict (gv (asc f) g)), .v (.int s.1), s.2.1, s.2.2, .non]) (fun i => .tuple [.int i, gT g i])
    (fun s i => (s.1 * (if nz a b c i then (g i).2 else 1), .v (.int i), .v (gT g i))) 3 (fun k s => Bd (4000 * k + 1) s.1) (asc f) 0 (1, .non, .non) (by omega) (by decide)
    (fun k s hk p i m => by
      obtain ⟨w, x, y⟩ := s
      have ix := ix_co a b c (mem_asc.mp m).1.1 (mem_asc.mp m).1.2
      have hq := (hg i m).bq
      have p : Bd (4000 * k + 1) w := p
      cases z : nz a b c i with
      | true =>
        have z' : ¬ co a b c i = 0 := by simpa [nz] using z
        refine ⟨?_, ((p.mul hq).mono (by omega))⟩
        simp_arith [gT, ix, gT1, z', mul_ok p hq (by omega), ix21]
      | false =>
        have z' : co a b c i = 0 := by simpa [nz] using z
        have o1 : Bd 1 1 := by decide
        refine ⟨?_, ((p.mul o1).mono (by omega))⟩
        simp_arith [gT, ix, gT1, z', mul_ok p o1 (by omega)])
  have eW : (asc f).foldl (fun (s : Int × Sl × Sl) i => (s.1 * (if nz a b c i then (g i).2 else 1), Sl.v (.int i), Sl.v (gT g i))) (1, .non, .non) = (whOf a b c g (asc f), ((asc f).foldl (fun (s : Int × Sl × Sl) i => (s.1 * (if nz a b c i then (g i).2 else 1), Sl.v (.int i), Sl.v (gT g i))) (1, .non, .non)).2) := by
    refine Prod.ext ?_ rfl
    have key : ∀ (xs : List Int) (s : Int × Sl × Sl), (xs.foldl (fun (s : Int × Sl × Sl) i => (s.1 * (if nz a b c i then (g i).2 else 1), Sl.v (.int i), Sl.v (gT g i))) s).1 = xs.foldl (fun w i => w * (if nz a b c i then (g i).2 else 1)) s.1 := by
      intro xs
      induction xs with
      | nil => intro s; rfl
      | cons x xs ih => intro s; rw [List.foldl_cons, List.foldl_cons, ih]
    exact key _ _
  rw [eW] at l1 b1
  generalize ((asc f).foldl (fun (s : Int × Sl × Sl) i => (s.1 * (if nz a b c i then (g i).2 else 1), Sl.v (.int i), Sl.v (gT g i))) (1, .non, .non)).2 = xy at l1
  obtain ⟨x, y⟩ := xy
  have bW : Bd 12001 (whOf a b c g (asc f)) := Bd.mono b1 (by omega)
  have bl : Bd 16001 (-l * whOf a b c g (asc f)) := (hb.2.2.2.neg.mul bW).mono (by omega)
  obtain ⟨l2, b2⟩ := for_foldI (σ := Int × Sl × Sl) (b := (bTup 2 (bCons (bName 4) (bCons (bName 5) bNil)))) (S := nox ((mIfS (mTest (mOp neF (mOp ixF (mVar 0) (mVar 4)) (mK (.int 0)))) (mSet 6 (mOp addF (mVar 6) (mOp mulF (mOp mulF (mOp ixF (mVar 0) (mVar 4)) (mOp ixF (mVar 5) (mK (.int 0)))) (mOp fdivF (mVar 3) (mOp ixF (mVar 5) (mK (.int 1))))))) mPass))) (fun s => [.v (.tuple [.int a, .int b, .int c]), .v (.int l), .v (.dict (gv (asc f) g)), .v (.int (whOf a b c g (asc f))), s.2.1, s.2.2, .v (.int s.1)]) (fun i => .tuple [.int i, gT g i])
    (fun s i => (if nz a b c i then s.1 + co a b c i * (g i).1 * ((whOf a b c g (asc f)).fdiv (g i).2) else s.1, .v (.int i), .v (gT g i))) 3 (fun k s => Bd (21000 + k) s.1) (asc f) 0 (-l * whOf a b c g (asc f), x, y) (by omega) (bl.mono (by omega))
    (fun k s hk p i m => by
      obtain ⟨t, x, y⟩ := s
      have ix := ix_co a b c (mem_asc.mp m).1.1 (mem_asc.mp m).1.2
      have r := hg i m
      have p : Bd (21000 + k) t := p
      have q0 : (g i).2 ≠ 0 := by have := r.pos; omega
      have bd := bd_fdiv (g i).2 (show 0 < (g i).2 by have := r.pos; omega) bW
      have bc := hc i
      cases z : nz a b c i with
      | true =>
        have z' : ¬ co a b c i = 0 := by simpa [nz] using z
        refine ⟨?_, (p.add ((((bc.mul r.bp).mul bd).mono (by omega))))⟩
        simp_arith [gT, ix, gT1, gT0, z', mul_ok bc r.bp, mul_ok (bc.mul r.bp) bd, fdiv_ok q0 r.bq, ix20, ix21]
      | false =>
        have z' : co a b c i = 0 := by simpa [nz] using z
        refine ⟨?_, p.mono (by omega)⟩
        simp_arith [gT, ix, z'])
  have eT : ((asc f).foldl (fun (s : Int × Sl × Sl) i => (if nz a b c i then s.1 + co a b c i * (g i).1 * ((whOf a b c g (asc f)).fdiv (g i).2) else s.1, Sl.v (.int i), Sl.v (gT g i))) (-l * whOf a b c g (asc f), x, y)).1 = topOf a b c l g := by
    have key : ∀ (W : Int) (xs : List Int) (s : Int × Sl × Sl), (xs.foldl (fun (s : Int × Sl × Sl) i => (if nz a b c i then s.1 + co a b c i * (g i).1 * (W.fdiv (g i).2) else s.1, Sl.v (.int i), Sl.v (gT g i))) s).1 = xs.foldl (fun t i => if nz a b c i then t + co a b c i * (g i).1 * (W.fdiv (g i).2) else t) s.1 := by
      intro W xs
      induction xs with
      | nil => intro s; rfl
      | cons x xs ih => intro s; rw [List.foldl_cons, List.foldl_cons, ih]
    rw [key]
    exact tot_top a b c l g f (fun i m => (hg i m).pos) hf
  rw [show ((asc f).map fun i => T.tuple [.int i, gT g i]) = itemTs (gv (asc f) g) from (gv_items _ _).symm] at l1 l2
  generalize (asc f).foldl _ _ = s2 at l2 eT
  obtain ⟨t2, x2, y2⟩ := s2
  have eT : t2 = topOf a b c l g := eT
  subst eT
  have ml := mul_ok hb.2.2.2.neg bW
  simp_arith [fn_sum_left, cd_sum_left, l1, ml, l2]
theorem r_atrue (H : Has Γ) {m : Nat} (hm : 2 ≤ m) {s : Say} {g : Int → Int × Int} {f : Int → Bool} (h : s.Ok) (ha : s.atom = true) (hb : Sm s) (hg : GOk g (asc f)) (hf : ∀ i, 0 ≤ i → i < 3 → fv s i = true → f i = true) :
    callN Γ m "is_atom_true" [.v s.t, .v (.dict (gv (asc f) g))] = .rt (.v (.bool (holds g s))) [.v s.t, .v (.dict (gv (asc f) g))] := by
  obtain ⟨n, rfl⟩ : ∃ n, m = n + 1 := ⟨m - 1, by omega⟩
  obtain ⟨k, hk⟩ := H.is_atom_true
  rw [callN_eq hk]
  cases s with
  | sum w a b c l =>
    have e := r_left H (m := n) (by omega) hb hg hf
    have hw : w.isS = true := h
    have hc : w = .less ∨ w = .most ∨ w = .equal := by cases w <;> first | (cases hw; done) | simp
    have ht : holds g (.sum w a b c l) = truth w (topOf a b c l g) := rfl
    rw [ht]
    generalize topOf a b c l g = top at e ⊢
    rcases hc with rfl | rfl | rfl
    · simp_arith [fn_is_atom_true, cd_is_atom_true, Say.t, ix30, ix31, ix32, inS, W.isS, e, eq_less, eq_most, truth]
    · simp_arith [fn_is_atom_true, cd_is_atom_true, Say.t, ix30, ix31, ix32, inS, W.isS, e, eq_less, eq_most, truth]
    · simp_arith [fn_is_atom_true, cd_is_atom_true, Say.t, ix30, ix31, ix32, inS, W.isS, e, eq_less, eq_most, truth]
  | whole i =>
    have d := gv_dget (g := g) (mem_asc.mpr ⟨h, hf i h.1 h.2 (by simp [fv])⟩)
    by_cases q : (g i).2 = 1
    · simp_arith [fn_is_atom_true, cd_is_atom_true, Say.t, ix20, ix21, inS, W.isS, d, gT1, q, eq_whole, holds]
    · simp_arith [fn_is_atom_true, cd_is_atom_true, Say.t, ix20, ix21, inS, W.isS, d, gT1, q, eq_whole, holds]
  | rest i m r =>
    have d := gv_dget (g := g) (mem_asc.mpr ⟨h.1, hf i h.1.1 h.1.2 (by simp [fv])⟩)
    have m0 : m ≠ 0 := by have := h.2.1; omega
    by_cases q : (g i).2 = 1
    · simp_arith [fn_is_atom_true, cd_is_atom_true, Say.t, ix40, ix41, ix42, ix43, inS, W.isS, d, gT0, gT1, q, eq_whole, mod_ok m0, holds, Bool.true_and]
    · simp_arith [fn_is_atom_true, cd_is_atom_true, Say.t, ix40, ix41, ix42, ix43, inS, W.isS, d, gT0, gT1, q, eq_whole, holds, Bool.false_and]
  | neg s => cases ha
  | two w s t => cases ha
  | q w i s => cases ha
theorem any2 (x y : Bool) : anyF [.list [.bool x, .bool y]] = some (.v (.bool (x || y))) := by
  simp [anyF, boolsOf]
theorem all2 (x y : Bool) : allF [.list [.bool x, .bool y]] = some (.v (.bool (x && y))) := by
  simp [allF, boolsOf]
theorem r_true (H : Has Γ) {g : Int → Int × Int} {f : Int → Bool} (hg : GOk g (asc f)) : ∀ (s : Say) (m : Nat), s.Ok → plain s = true → Sm s → (∀ i, 0 ≤ i → i < 3 → fv s i = true → f i = true) → s.sz + 2 ≤ m →
    callN Γ m "is_true_at" [.v s.t, .v (.dict (gv (asc f) g))] = .rt (.v (.bool (holds g s))) [.v s.t, .v (.dict (gv (asc f) g))] := by
  have atom : ∀ (s : Say) (m : Nat), s.atom = true → s.Ok → Sm s → (∀ i, 0 ≤ i → i < 3 → fv s i = true → f i = true) → 3 ≤ m →
    callN Γ m "is_true_at" [.v s.t, .v (.dict (gv (asc f) g))] = .rt (.v (.bool (holds g s))) [.v s.t, .v (.dict (gv (asc f) g))] := by
    intro s m ha h hs hf hm
    obtain ⟨n, rfl⟩ : ∃ n, m = n + 1 := ⟨m - 1, by omega⟩
    obtain ⟨k, hk⟩ := H.is_true_at
    rw [callN_eq hk]
    have e1 := r_atom H (m := n) (by omega) h
    rw [ha] at e1
    have e2 := r_atrue H (m := n) (by omega) h ha hs hg hf
    simp_arith [fn_is_true_at, cd_is_true_at, e1, e2]
  intro s
  induction s with
  | sum w a b c l => intro m h _ hs hf hm; exact atom _ m rfl h hs hf hm
  | whole i => intro m h _ hs hf hm; exact atom _ m rfl h hs hf hm
  | rest i j r => intro m h _ hs hf hm; exact atom _ m rfl h hs hf hm
  | neg s ih =>
    intro m h hp hs hf hm
    obtain ⟨n, rfl⟩ : ∃ n, m = n + 1 := ⟨m - 1, by omega⟩
    obtain ⟨k, hk⟩ := H.is_true_at
    rw [callN_eq hk]
    have e1 := r_atom H (m := n) (by omega) h
    have ei := r_parts_in H (m := n) (by omega) h
    rw [show (Say.neg s).atom = false from rfl] at e1
    rw [Say.t] at e1 ei
    have i1 := ih n h hp hs hf (by simp only [Say.sz] at hm; omega)
    simp_arith [fn_is_true_at, cd_is_true_at, e1, ei, Say.inn, itemsOf, Say.t, at_lc1, i1, ix20, eq_not, lix10, holds]
  | two w s t ih1 ih2 =>
    intro m h hp hs hf hm
    obtain ⟨n, rfl⟩ : ∃ n, m = n + 1 := ⟨m - 1, by omega⟩
    obtain ⟨k, hk⟩ := H.is_true_at
    rw [callN_eq hk]
    have e1 := r_atom H (m := n) (by omega) h
    have ei := r_parts_in H (m := n) (by omega) h
    rw [show (Say.two w s t).atom = false from rfl] at e1
    rw [Say.t] at e1 ei
    have hp' : plain s = true ∧ plain t = true := by simpa [plain] using hp
    have hz : s.sz + t.sz + 1 + 2 ≤ n + 1 := hm
    have s1 := s.sz_pos
    have t1 := t.sz_pos
    have i1 := ih1 n h.2.1 hp'.1 hs.1 (fun i a b c => hf i a b (by simp [fv, c])) (by omega)
    have i2 := ih2 n h.2.2 hp'.2 hs.2 (fun i a b c => hf i a b (by simp [fv, c])) (by omega)
    have hw : w.isB = true := h.1
    have hc : w = .both ∨ w = .either := by cases w <;> first | (cases hw; done) | simp
    rcases hc with rfl | rfl
    · simp_arith [fn_is_true_at, cd_is_true_at, e1, ei, Say.inn, itemsOf, Say.t, at_lc1, i1, i2, ix30, eq_not, eq_both, all2, holds]
    · simp_arith [fn_is_true_at, cd_is_true_at, e1, ei, Say.inn, itemsOf, Say.t, at_lc1, i1, i2, ix30, eq_not, eq_both, any2, holds]
  | q w i s ih => intro m h hp; cases hp
theorem r_frac (H : Has Γ) {m : Nat} (hm : 2 ≤ m) {k : Nat} {g : Int → Int × Int} {i : Int} (r : Red k (g i).1 (g i).2) : callN Γ m "is_fraction" [.v (gT g i)] = .rt (.v (.bool true)) [.v (gT g i)] := by
  obtain ⟨n, rfl⟩ : ∃ n, m = n + 1 := ⟨m - 1, by omega⟩
  obtain ⟨k, hk⟩ := H.is_fraction
  rw [callN_eq hk]
  have e := r_isint H (m := n) (by omega)
  have p := r.pos
  have q := r.gcd
  simp_arith [fn_is_fraction, cd_is_fraction, gT, e, p, q]
theorem r_numbers (H : Has Γ) {m : Nat} {s : Say} {g : Int → Int × Int} (h : s.Ok) (hg : GOk g (fl s)) (hm : s.sz + 3 ≤ m) :
    callN Γ m "check_numbers" [.v s.t, .v (.tuple ((fl s).map (gT g)))] = .rt (.v .none) [.v s.t, .v (.tuple ((fl s).map (gT g)))] := by
  obtain ⟨n, rfl⟩ : ∃ n, m = n + 1 := ⟨m - 1, by omega⟩
  obtain ⟨k, hk⟩ := H.check_numbers
  rw [callN_eq hk]
  have e1 := r_free H (m := n) h (by omega)
  have hl := asc_len (fv s)
  have l := lc_map (i := 2) (env := [.v s.t, .v (.tuple ((fl s).map (gT g))), .non]) (E := (mCall (callN Γ n) "is_fraction" [false] (mCons (mVar 2) mNil))) rfl (gT g) (fun _ => .bool true) (fl s) (fun i m => by
    have e2 := r_frac H (m := n) (by omega) (hg i m)
    simp_arith [e2]) (Nat.le_trans hl (by decide))
  have al := all_map (fun _ : Int => true) (fl s)
  have la : (fl s).all (fun _ => true) = true := by simp
  rw [la] at al
  have eq := eq_self ((fl s).length : Int)
  simp_arith [fn_check_numbers, cd_check_numbers, e1, flT, itemsOf, l, al]
theorem r_true_at (H : Has Γ) {m : Nat} {s : Say} {g : Int → Int × Int} (h : s.Ok) (hp : plain s = true) (hs : Sm s) (hg : GOk g (fl s)) (hz : s.sz ≤ 1000) (hm : s.sz + 10 ≤ m) :
    callN Γ m "true_at" [.v s.t, .v (.tuple ((fl s).map (gT g)))] = .rt (.v (.bool (holds g s))) [.v s.t, .v (.tuple ((fl s).map (gT g)))] := by
  obtain ⟨n, rfl⟩ : ∃ n, m = n + 1 := ⟨m - 1, by omega⟩
  obtain ⟨k, hk⟩ := H.true_at
  rw [callN_eq hk]
  have e1 := r_check H (m := n) (by omega) h hz
  have e2 := r_plain H (m := n) h (by omega) hz
  rw [hp] at e2
  have e3 := r_numbers H (m := n) h hg (by omega)
  have e4 := r_free H (m := n) h (by omega)
  have e5 := r_true H hg s n h hp hs (fun i _ _ z => z) (by omega)
  have dz : (mDZip (mCons (mCall (callN Γ n) "free_of" [false] (mCons (mVar 0) mNil)) (mCons (mVar 1) mNil))) [.v s.t, .v (.tuple ((fl s).map (gT g)))] = .ok (.fr (gvO (fl s) g)) [.v s.t, .v (.tuple ((fl s).map (gT g)))] := dzip_ok (asc_nodup _) (by simp_arith [e4, flT])
  simp_arith [fn_true_at, cd_true_at, e1, e2, e3, dz, gvO_data, (show asc (fv s) = fl s from rfl) ▸ e5]
end
/-! ### as the library's data -/
def Say.pd : Say → PySem.PyData
  | .sum w a b c l => .tuple [.str w.s, .tuple [.int a, .int b, .int c], .int l]
  | .whole i => .tuple [.str W.whole.s, .int i]
  | .rest i m r => .tuple [.str W.rest.s, .int i, .int m, .int r]
  | .neg s => .tuple [.str W.not.s, s.pd]
  | .two w s t => .tuple [.str w.s, s.pd, t.pd]
  | .q w i s => .tuple [.str w.s, .int i, s.pd]
theorem say_pyO : ∀ s : Say, s.t.pyO = some s.pd
  | .sum _ _ _ _ _ => rfl
  | .whole _ => rfl
  | .rest _ _ _ => rfl
  | .neg s => by simp [Say.t, Say.pd, T.pyO, T.pyOs, say_pyO s]
  | .two _ s t => by simp [Say.t, Say.pd, T.pyO, T.pyOs, say_pyO s, say_pyO t]
  | .q _ _ s => by simp [Say.t, Say.pd, T.pyO, T.pyOs, say_pyO s]
theorem say_lay : ∀ s : Say, PySem.PyData.canLay0 s.pd = true
  | .sum w _ _ _ _ => by simp [Say.pd, PySem.PyData.canLay0, PySem.PyData.canLayAll0, w.s_ok]
  | .whole _ => by simp [Say.pd, PySem.PyData.canLay0, PySem.PyData.canLayAll0, W.whole.s_ok]
  | .rest _ _ _ => by simp [Say.pd, PySem.PyData.canLay0, PySem.PyData.canLayAll0, W.rest.s_ok]
  | .neg s => by simp [Say.pd, PySem.PyData.canLay0, PySem.PyData.canLayAll0, W.not.s_ok, say_lay s]
  | .two w s t => by simp [Say.pd, PySem.PyData.canLay0, PySem.PyData.canLayAll0, w.s_ok, say_lay s, say_lay t]
  | .q w _ s => by simp [Say.pd, PySem.PyData.canLay0, PySem.PyData.canLayAll0, w.s_ok, say_lay s]
theorem say_depth : ∀ s : Say, s.pd.depth ≤ s.sz + 1
  | .sum _ _ _ _ _ => by simp [Say.pd, PySem.PyData.depth, PySem.PyData.depthAll, Say.sz]
  | .whole _ => by simp [Say.pd, PySem.PyData.depth, PySem.PyData.depthAll, Say.sz]
  | .rest _ _ _ => by simp [Say.pd, PySem.PyData.depth, PySem.PyData.depthAll, Say.sz]
  | .neg s => by have := say_depth s; simp [Say.pd, PySem.PyData.depth, PySem.PyData.depthAll, Say.sz]; omega
  | .two _ s t => by have := say_depth s; have := say_depth t; simp [Say.pd, PySem.PyData.depth, PySem.PyData.depthAll, Say.sz]; omega
  | .q _ _ s => by have := say_depth s; simp [Say.pd, PySem.PyData.depth, PySem.PyData.depthAll, Say.sz]; omega
theorem says_pyO : ∀ l : List Say, T.pyOs (l.map Say.t) = some (l.map Say.pd)
  | [] => rfl
  | s :: l => by simp [T.pyOs, say_pyO s, says_pyO l]
theorem says_lay : ∀ l : List Say, PySem.PyData.canLayAll0 (l.map Say.pd) = true
  | [] => rfl
  | s :: l => by simp [PySem.PyData.canLayAll0, say_lay s, says_lay l]
theorem says_depth {k : Nat} : ∀ l : List Say, (∀ s ∈ l, s.sz ≤ k) → PySem.PyData.depthAll (l.map Say.pd) ≤ k + 1
  | [], _ => Nat.zero_le _
  | s :: l, h => by
    have := says_depth l fun s m => h s (List.mem_cons_of_mem _ m)
    have := say_depth s
    have := h s List.mem_cons_self
    simp only [List.map_cons, PySem.PyData.depthAll]
    omega
theorem ne_says {l : List Say} (h : ∀ s ∈ l, s.sz ≤ 50) : neF (.list (l.map Say.t)) (.list []) = some (.v (.bool (!l.isEmpty))) := by
  have e1 : (T.list (l.map Say.t)).pyO = some (.list (l.map Say.pd)) := by simp [T.pyO, says_pyO]
  have e2 : (T.list []).pyO = some (.list []) := rfl
  have s1 : PySem.SeqAt.shaped (.list (l.map Say.pd)) = true := by
    have hd := says_depth l h
    have c1 : PySem.PyData.canLay0 (.list (l.map Say.pd)) = true := by rw [PySem.PyData.canLay0]; exact says_lay l
    have d1 : PySem.PyData.depth (.list (l.map Say.pd)) ≤ 64 := by rw [PySem.PyData.depth]; omega
    unfold PySem.SeqAt.shaped
    rw [c1, decide_eq_true d1]
    rfl
  have s2 : PySem.SeqAt.shaped (.list []) = true := rfl
  simp only [neF, eqT, e1, e2, s1, s2, and_self, if_true, Option.map_some]
  cases l <;> rfl
theorem ne_ints {ks : List Int} (h : ks.length ≤ 3) : neF (.tuple (ks.map .int)) (.tuple []) = some (.v (.bool (!ks.isEmpty))) := by
  match ks, h with
  | [], _ => rfl
  | [a], _ => simp [neF, eqT, T.pyO, T.pyOs, PySem.SeqAt.shaped, PySem.PyData.canLay0, PySem.PyData.canLayAll0, PySem.PyData.depth, PySem.PyData.depthAll, PySem.PyData.eqv, PySem.PyData.eqvAll]
  | [a, b], _ => simp [neF, eqT, T.pyO, T.pyOs, PySem.SeqAt.shaped, PySem.PyData.canLay0, PySem.PyData.canLayAll0, PySem.PyData.depth, PySem.PyData.depthAll, PySem.PyData.eqv, PySem.PyData.eqvAll]
  | [a, b, c], _ => simp [neF, eqT, T.pyO, T.pyOs, PySem.SeqAt.shaped, PySem.PyData.canLay0, PySem.PyData.canLayAll0, PySem.PyData.depth, PySem.PyData.depthAll, PySem.PyData.eqv, PySem.PyData.eqvAll]
end SY
end P_SY

noncomputable section P_Code_LS
set_option linter.all false
set_option maxRecDepth 100000
/-! Code that laws share; printed by gen.py. -/
namespace LS
open Ev

def cd__law_sum (cf : CF) : MS :=
    (mSeq (mSet 3 (mB tupleF (mCons (mLc (sRng1 (mCons (mK (.int 3)) mNil)) (bName 4) cYes (mOp mulF (mOp subF (mCall cf "_law_pick" [true, false] (mCons (mVar 0) (mCons (mOp addF (mOp mulF (mK (.int 2)) (mVar 1)) (mK (.int 1))) mNil))) (mVar 1)) (mB min2F (mCons (mK (.int 1)) (mCons (mCall cf "_law_pick" [true, false] (mCons (mVar 0) (mCons (mK (.int 3)) mNil))) mNil)))) [4]) mNil)))
    (mRet (mTup (mCons (mOp ixF (mLst (mCons (mK (.str "less")) (mCons (mK (.str "most")) (mCons (mK (.str "equal")) mNil)))) (mCall cf "_law_pick" [true, false] (mCons (mVar 0) (mCons (mK (.int 3)) mNil)))) (mCons (mVar 3) (mCons (mOp subF (mCall cf "_law_pick" [true, false] (mCons (mVar 0) (mCons (mOp addF (mOp mulF (mK (.int 2)) (mVar 2)) (mK (.int 1))) mNil))) (mVar 2)) mNil))))))
def fn__law_sum : Fn := { ps := ["source", "size", "limit"], n := 5, body := cd__law_sum, kws := [] }
def cd__law_atom (cf : CF) : MS :=
    (mSeq (mSet 3 (mCall cf "_law_pick" [true, false] (mCons (mVar 0) (mCons (mK (.int 5)) mNil))))
    (mSeq (mIfS (mTest (mOp ltF (mVar 3) (mK (.int 3)))) (mRet (mCall cf "_law_sum" [true, false, false] (mCons (mVar 0) (mCons (mVar 1) (mCons (mVar 2) mNil))))) mPass)
    (mSeq (mSet 4 (mOp addF (mK (.int 2)) (mCall cf "_law_pick" [true, false] (mCons (mVar 0) (mCons (mK (.int 5)) mNil)))))
    (mSeq (mSet 5 (mTup (mCons (mK (.str "rest")) (mCons (mCall cf "_law_pick" [true, false] (mCons (mVar 0) (mCons (mK (.int 3)) mNil))) (mCons (mVar 4) (mCons (mCall cf "_law_pick" [true, false] (mCons (mVar 0) (mCons (mVar 4) mNil))) mNil))))))
    (mRet (mIf (mTest (mOp eqF (mVar 3) (mK (.int 3)))) (mVar 5) (mTup (mCons (mK (.str "whole")) (mCons (mCall cf "_law_pick" [true, false] (mCons (mVar 0) (mCons (mK (.int 3)) mNil))) mNil)))))))))
def fn__law_atom : Fn := { ps := ["source", "size", "limit"], n := 6, body := cd__law_atom, kws := [] }
def cd__law_inner (cf : CF) : MS :=
    (mSeq (mIfS (mTest (mOp inF (mOp ixF (mVar 0) (mK (.int 0))) (mTup (mCons (mK (.str "not")) (mCons (mK (.str "both")) (mCons (mK (.str "either")) mNil)))))) (mRet (mB listF (mCons (mSl (mVar 0) (mPo (some (mK (.int 1)))) (mPo none)) mNil))) mPass)
    (mRet (mIf (mTest (mOp inF (mOp ixF (mVar 0) (mK (.int 0))) (mTup (mCons (mK (.str "some")) (mCons (mK (.str "every")) mNil))))) (mLst (mCons (mOp ixF (mVar 0) (mK (.int 2))) mNil)) (mLst mNil))))
def fn__law_inner : Fn := { ps := ["saying"], n := 1, body := cd__law_inner, kws := [] }
def cd__law_free (cf : CF) : MS :=
    (mSeq (mSet 1 (mOp ixF (mVar 0) (mK (.int 0))))
    (mSeq (mIfS (mTest (mOp inF (mVar 1) (mTup (mCons (mK (.str "less")) (mCons (mK (.str "most")) (mCons (mK (.str "equal")) mNil)))))) (mRet (mB tupleF (mCons (mLc (sRng1 (mCons (mK (.int 3)) mNil)) (bName 5) (mTest (mOp neF (mOp ixF (mOp ixF (mVar 0) (mK (.int 1))) (mVar 5)) (mK (.int 0)))) (mVar 5) [5]) mNil))) mPass)
    (mSeq (mIfS (mTest (mOp inF (mVar 1) (mTup (mCons (mK (.str "whole")) (mCons (mK (.str "rest")) mNil))))) (mRet (mTup (mCons (mOp ixF (mVar 0) (mK (.int 1))) mNil))) mPass)
    (mSeq (mSet 2 (mLst mNil))
    (mSeq (mFor (sVal (mCall cf "_law_inner" [false] (mCons (mVar 0) mNil))) (bName 3) (mSet 2 (mOp addF (mVar 2) (mB listF (mCons (mCall cf "_law_free" [false] (mCons (mVar 3) mNil)) mNil)))))
    (mSeq (mSet 4 (mIf (mTest (mOp inF (mVar 1) (mTup (mCons (mK (.str "some")) (mCons (mK (.str "every")) mNil))))) (mOp ixF (mVar 0) (mK (.int 1))) (mUn negF (mK (.int 1)))))
    (mRet (mB tupleF (mCons (mLc (sRng1 (mCons (mK (.int 3)) mNil)) (bName 5) (mAndT (mTest (mOp inF (mVar 5) (mVar 2))) (mTest (mOp neF (mVar 5) (mVar 4)))) (mVar 5) [5]) mNil)))))))))
def fn__law_free : Fn := { ps := ["saying"], n := 6, body := cd__law_free, kws := [] }
def cd__law_holds (cf : CF) : MS :=
    (mSeq (mSet 2 (mOp ixF (mVar 0) (mK (.int 0))))
    (mSeq (mIfS (mTest (mOp inF (mVar 2) (mTup (mCons (mK (.str "not")) (mCons (mK (.str "both")) (mCons (mK (.str "either")) mNil)))))) (mSeq (mSet 3 (mLc (sVal (mSl (mVar 0) (mPo (some (mK (.int 1)))) (mPo none))) (bName 9) cYes (mCall cf "_law_holds" [false, false] (mCons (mVar 9) (mCons (mVar 1) mNil))) [9]))
    (mSeq (mIfS (mTest (mOp eqF (mVar 2) (mK (.str "not")))) (mRet (mNotV (mOp ixF (mVar 3) (mK (.int 0))))) mPass)
    (mRet (mIf (mTest (mOp eqF (mVar 2) (mK (.str "both")))) (mAndV (mOp ixF (mVar 3) (mK (.int 0))) (mOp ixF (mVar 3) (mK (.int 1)))) (mOrV (mOp ixF (mVar 3) (mK (.int 0))) (mOp ixF (mVar 3) (mK (.int 1)))))))) mPass)
    (mSeq (mIfS (mTest (mOp inF (mVar 2) (mTup (mCons (mK (.str "whole")) (mCons (mK (.str "rest")) mNil))))) (mSeq (mSet 4 (mOp ixF (mVar 1) (mOp ixF (mVar 0) (mK (.int 1)))))
    (mRet (mAndV (mOp eqF (mOp ixF (mVar 4) (mK (.int 1))) (mK (.int 1))) (mOrV (mOp eqF (mVar 2) (mK (.str "whole"))) (mOp eqF (mOp modF (mB intF (mCons (mOp ixF (mVar 4) (mK (.int 0))) mNil)) (mOp ixF (mVar 0) (mK (.int 2)))) (mOp ixF (mVar 0) (mK (.int 3)))))))) mPass)
    (mSeq (mPar [5, 6] (mCons (mUn negF (mOp ixF (mVar 0) (mK (.int 2)))) (mCons (mK (.int 1)) mNil)))
    (mSeq (mFor (sRng1 (mCons (mK (.int 3)) mNil)) (bName 7) (mIfS (mTest (mOp neF (mOp ixF (mOp ixF (mVar 0) (mK (.int 1))) (mVar 7)) (mK (.int 0)))) (mSeq (mSet 8 (mOp ixF (mVar 1) (mVar 7)))
    (mPar [5, 6] (mCons (mOp addF (mOp mulF (mVar 5) (mOp ixF (mVar 8) (mK (.int 1)))) (mOp mulF (mOp mulF (mOp ixF (mOp ixF (mVar 0) (mK (.int 1))) (mVar 7)) (mOp ixF (mVar 8) (mK (.int 0)))) (mVar 6))) (mCons (mOp mulF (mVar 6) (mOp ixF (mVar 8) (mK (.int 1)))) mNil)))) mPass))
    (mSeq (mIfS (mTest (mOp eqF (mVar 2) (mK (.str "equal")))) (mRet (mOp eqF (mVar 5) (mK (.int 0)))) mPass)
    (mRet (mOrV (mOp ltF (mVar 5) (mK (.int 0))) (mAndV (mOp eqF (mVar 2) (mK (.str "most"))) (mOp eqF (mVar 5) (mK (.int 0))))))))))))
def fn__law_holds : Fn := { ps := ["saying", "given"], n := 10, body := cd__law_holds, kws := [] }
def cd__law_number (cf : CF) : MS :=
    (mSeq (mSet 1 (mCall cf "_law_pick" [true, false] (mCons (mVar 0) (mCons (mK (.int 8)) mNil))))
    (mSeq (mIfS (mTest (mOp ltF (mVar 1) (mK (.int 2)))) (mRet (mTup (mCons (mOp subF (mCall cf "_law_pick" [true, false] (mCons (mVar 0) (mCons (mK (.int 41)) mNil))) (mK (.int 20))) (mCons (mK (.int 1)) mNil)))) mPass)
    (mSeq (mIfS (mTest (mOp ltF (mVar 1) (mK (.int 6)))) (mRet (mCall cf "_law_frac" [false, false] (mCons (mOp subF (mCall cf "_law_pick" [true, false] (mCons (mVar 0) (mCons (mK (.int 121)) mNil))) (mK (.int 60))) (mCons (mOp addF (mK (.int 1)) (mCall cf "_law_pick" [true, false] (mCons (mVar 0) (mCons (mK (.int 12)) mNil)))) mNil)))) mPass)
    (mSeq (mIfS (mTest (mOp eqF (mVar 1) (mK (.int 6)))) (mRet (mCall cf "_law_frac" [false, false] (mCons (mOp subF (mCall cf "_law_pick" [true, false] (mCons (mVar 0) (mCons (mOp addF (mOp mulF (mK (.int 2)) (mOp powXF (mK (.int 10)) (mK (.int 6)))) (mK (.int 1))) mNil))) (mOp powXF (mK (.int 10)) (mK (.int 6)))) (mCons (mOp addF (mK (.int 1)) (mCall cf "_law_pick" [true, false] (mCons (mVar 0) (mCons (mK (.int 1000)) mNil)))) mNil)))) mPass)
    (mRet (mCall cf "_law_frac" [false, false] (mCons (mOp subF (mCall cf "_law_pick" [true, false] (mCons (mVar 0) (mCons (mOp addF (mOp mulF (mK (.int 2)) (mOp powXF (mK (.int 10)) (mK (.int 29)))) (mK (.int 1))) mNil))) (mOp powXF (mK (.int 10)) (mK (.int 29)))) (mCons (mOp addF (mK (.int 1)) (mCall cf "_law_pick" [true, false] (mCons (mVar 0) (mCons (mOp powXF (mK (.int 10)) (mK (.int 29))) mNil)))) mNil))))))))
def fn__law_number : Fn := { ps := ["source"], n := 2, body := cd__law_number, kws := [] }
def cd__law_tens (cf : CF) : MS :=
    (mSeq (mSet 1 (mK (.int 1)))
    (mSeq (mFor (sRng1 (mCons (mVar 0) mNil)) (bName 2) (mSet 1 (mOp mulF (mVar 1) (mK (.int 10)))))
    (mRet (mVar 1))))
def fn__law_tens : Fn := { ps := ["many"], n := 3, body := cd__law_tens, kws := [] }
structure Has (Γ : String → Option Fn) : Prop where
  _law_sum : ∃ k, Γ "_law_sum" = some { fn__law_sum with kws := k }
  _law_atom : ∃ k, Γ "_law_atom" = some { fn__law_atom with kws := k }
  _law_inner : ∃ k, Γ "_law_inner" = some { fn__law_inner with kws := k }
  _law_free : ∃ k, Γ "_law_free" = some { fn__law_free with kws := k }
  _law_holds : ∃ k, Γ "_law_holds" = some { fn__law_holds with kws := k }
  _law_number : ∃ k, Γ "_law_number" = some { fn__law_number with kws := k }
  _law_tens : ∃ k, Γ "_law_tens" = some { fn__law_tens with kws := k }
end LS
end P_Code_LS

section P_LS
set_option Elab.async false
set_option linter.all false
set_option maxRecDepth 100000
/-! LS: sayings drawn by a family of laws, their variables and their truth. -/
namespace LS
open Ev SY
set_option autoImplicit false
local macro_rules
  | `(tactic| simp_arith [$args,*]) => `(tactic| simp only [at_bind, at_ok, at_er, at_no, at_var, at_k, at_op, at_un, at_lk, at_opt, at_nil, at_cons, at_b, at_lks0, at_lks1, at_test, at_toTs0, at_toTs1, at_toTv, at_toTf, at_toTl, at_notT, ltl0, ltl1, ltl2, ltl3, ltl4, ltl5, ltl6, ltl7, ltl8, ltl9, ltl10, ltl11, ltl12, ltl13, ltl14, ltl15, ltl16, at_andT, at_orT, at_if, at_andV, at_orV, at_chain, at_set, at_drop, at_ret, at_pass, at_brk, at_cnt, at_ifS, at_seq, at_putv, at_putf, at_tup, at_lst, at_call, at_callK, at_args0, at_args1, at_argb, at_argt, at_callA, at_unp, at_btup, at_blst, at_bnil, at_bcons, at_bname, at_isi, at_notV, at_par, at_stabs0, at_stabs1, at_stabv, at_stabf, at_puts0, at_puts1, at_daug, at_store, at_chk, at_getE, at_setO, at_modE, at_meth, at_for, at_sval, at_rng1, at_sl, at_po0, at_po1, at_lc, at_dct, at_clear0, at_clear1, at_lc0, at_nox, at_yes, at_for0, at_aft_nx, at_aft_ct, at_aft_bk, at_aft_rt, at_wip0, at_wip1, Bool.and_true, look, List.getElem?_cons_zero, List.getElem?_cons_succ, List.getElem?_nil, List.set_cons_zero, List.set_cons_succ, List.set_nil, List.length_cons, List.length_nil, List.length_map, List.cons_append, List.nil_append, List.length_set, addF, subF, negF, ltF, leF, gtF, geF, isF, isnF, isNF, gcdF, absF, intF, iaddF, isiF, isi, Option.map_some, Option.map_none, Option.bind_some, Ob.data, keyT, List.map_cons, List.map_nil, argsS, bIdx, back, likeA, List.nodup_nil, List.nodup_cons, List.not_mem_nil, not_false_eq_true, and_self, and_true, true_and, if_true, if_false, ite_true, ite_false, ↓reduceIte, Bool.not_true, Bool.not_false, Bool.false_eq_true, decide_true, decide_false, Ev.finish, endOf, retOf, leave, enter, tagA, Ev.strip, retag, List.replicate, Nat.reduceAdd, Nat.reduceSub, Nat.reduceLT, Nat.reduceLeDiff, Nat.reduceEqDiff, permL, liftO, liftG, Urn.ty, Urn.st, Urn.lg, Urn.lo, eq_self, Urn.rt, line0, line1, line2, line3, line4, line5, line6, line7, line8, line9, line10, line11, line12, line13, line14, line15, line16, Urn.g_cells, Urn.g_at, Urn.g_deep, Urn.g_mix, Urn.g_turn, Urn.d_at, Urn.d_turn, Urn.p_at, Urn.p_deep, Urn.p_mix, Urn.p_turn, eq_int, ne_int, eq_bool, ne_bool, ten18, ten15, lenF, runFn, obT, at_aug, at_mForI1, ite_app, bind_ite, Sr.ty, Sr.st, Sr.rt, Sr.lg, Sr.lo, Sr.g0, Sr.g1, Sr.g2, Sr.s0, Sr.s2, Sr.tst, Sr.trt, Int.natCast_one, Int.natCast_zero, Int.cast_ofNat_Int, Int.reduceEq, Int.reduceLT, Int.reduceLE, Int.reduceAdd, Int.reduceSub, Int.reduceMul, Int.reduceNeg, reduceCtorEq, Int.reducePow, Int.reduceToNat, $args,*])
  | `(tactic| simp_arith [$args,*] at $h:ident) => `(tactic| simp only [at_bind, at_ok, at_er, at_no, at_var, at_k, at_op, at_un, at_lk, at_opt, at_nil, at_cons, at_b, at_lks0, at_lks1, at_test, at_toTs0, at_toTs1, at_toTv, at_toTf, at_toTl, at_notT, ltl0, ltl1, ltl2, ltl3, ltl4, ltl5, ltl6, ltl7, ltl8, ltl9, ltl10, ltl11, ltl12, ltl13, ltl14, ltl15, ltl16, at_andT, at_orT, at_if, at_andV, at_orV, at_chain, at_set, at_drop, at_ret, at_pass, at_brk, at_cnt, at_ifS, at_seq, at_putv, at_putf, at_tup, at_lst, at_call, at_callK, at_args0, at_args1, at_argb, at_argt, at_callA, at_unp, at_btup, at_blst, at_bnil, at_bcons, at_bname, at_isi, at_notV, at_par, at_stabs0, at_stabs1, at_stabv, at_stabf, at_puts0, at_puts1, at_daug, at_store, at_chk, at_getE, at_setO, at_modE, at_meth, at_for, at_sval, at_rng1, at_sl, at_po0, at_po1, at_lc, at_dct, at_clear0, at_clear1, at_lc0, at_nox, at_yes, at_for0, at_aft_nx, at_aft_ct, at_aft_bk, at_aft_rt, at_wip0, at_wip1, Bool.and_true, look, List.getElem?_cons_zero, List.getElem?_cons_succ, List.getElem?_nil, List.set_cons_zero, List.set_cons_succ, List.set_nil, List.length_cons, List.length_nil, List.length_map, List.cons_append, List.nil_append, List.length_set, addF, subF, negF, ltF, leF, gtF, geF, isF, isnF, isNF, gcdF, absF, intF, iaddF, isiF, isi, Option.map_some, Option.map_none, Option.bind_some, Ob.data, keyT, List.map_cons, List.map_nil, argsS, bIdx, back, likeA, List.nodup_nil, List.nodup_cons, List.not_mem_nil, not_false_eq_true, and_self, and_true, true_and, if_true, if_false, ite_true, ite_false, ↓reduceIte, Bool.not_true, Bool.not_false, Bool.false_eq_true, decide_true, decide_false, Ev.finish, endOf, retOf, leave, enter, tagA, Ev.strip, retag, List.replicate, Nat.reduceAdd, Nat.reduceSub, Nat.reduceLT, Nat.reduceLeDiff, Nat.reduceEqDiff, permL, liftO, liftG, Urn.ty, Urn.st, Urn.lg, Urn.lo, eq_self, Urn.rt, line0, line1, line2, line3, line4, line5, line6, line7, line8, line9, line10, line11, line12, line13, line14, line15, line16, Urn.g_cells, Urn.g_at, Urn.g_deep, Urn.g_mix, Urn.g_turn, Urn.d_at, Urn.d_turn, Urn.p_at, Urn.p_deep, Urn.p_mix, Urn.p_turn, eq_int, ne_int, eq_bool, ne_bool, ten18, ten15, lenF, runFn, obT, at_aug, at_mForI1, ite_app, bind_ite, Sr.ty, Sr.st, Sr.rt, Sr.lg, Sr.lo, Sr.g0, Sr.g1, Sr.g2, Sr.s0, Sr.s2, Sr.tst, Sr.trt, Int.natCast_one, Int.natCast_zero, Int.cast_ofNat_Int, Int.reduceEq, Int.reduceLT, Int.reduceLE, Int.reduceAdd, Int.reduceSub, Int.reduceMul, Int.reduceNeg, reduceCtorEq, Int.reducePow, Int.reduceToNat, $args,*] at $h:ident)
theorem bd_small {k : Nat} {x : Int} (m : Int) (h : Bd k m) (h0 : -m ≤ x) (h1 : x ≤ m) : Bd k x := h.of_le (by omega)
/-- a drawn saying: not too great -/
structure Gd (z : Nat) (s : Say) : Prop where
  ok : s.Ok
  plain : plain s = true
  sm : Sm s
  sz : s.sz ≤ z
section
variable {Γ : String → Option Fn}
theorem law_sum (HA : LA.Has Γ) (H : Has Γ) {m k : Nat} {s : Sr} {size limit : Int} (hm : 2 ≤ m) (h : LA.SOk k s) (hk : k ≤ 900000) (z0 : 0 ≤ size) (z1 : size ≤ 1000) (l0 : 0 ≤ limit) (l1 : limit ≤ 1000) :
    ∃ (s' : Sr) (w : W) (a b c l : Int), callN Γ m "_law_sum" [.own (.tg 0 s.ob), .v (.int size), .v (.int limit)] = .rt (.v (Say.sum w a b c l).t) [.own (.tg 0 s'.ob), .v (.int size), .v (.int limit)] ∧ Gd 1 (Say.sum w a b c l) ∧ LA.SOk (k + 8) s' := by
  obtain ⟨n, rfl⟩ : ∃ n, m = n + 1 := ⟨m - 1, by omega⟩
  obtain ⟨kk, hkk⟩ := H._law_sum
  rw [callN_eq hkk]
  have K1 : Bd 12 2001 := by decide
  have bz : Bd 12 size := K1.of_le (by omega)
  have bl : Bd 12 limit := K1.of_le (by omega)
  have k2 : Bd 2 2 := by decide
  have k3 : Bd 9000 3 := (by decide : Bd 2 3).mono (by omega)
  have bz2 : Bd 9000 (2 * size + 1) := (K1.of_le (by omega)).mono (by omega)
  have bl2 : Bd 9000 (2 * limit + 1) := (K1.of_le (by omega)).mono (by omega)
  have mz := mul_ok k2 bz
  have ml := mul_ok k2 bl
  obtain ⟨ts, s1, e1, len, fs, i1⟩ := lc_draw (i := 4) (E := (mOp mulF (mOp subF (mCall (callN Γ n) "_law_pick" [true, false] (mCons (mVar 0) (mCons (mOp addF (mOp mulF (mK (.int 2)) (mVar 1)) (mK (.int 1))) mNil))) (mVar 1)) (mB min2F (mCons (mK (.int 1)) (mCons (mCall (callN Γ n) "_law_pick" [true, false] (mCons (mVar 0) (mCons (mK (.int 3)) mNil))) mNil))))) (fun s : Sr => [.own (.tg 0 s.ob), .v (.int size), .v (.int limit), .non, .non]) T.int (fun j s => LA.SOk (k + 2 * j) s) (fun t => ∃ x : Int, t = .int x ∧ -size ≤ x ∧ x ≤ size) (fun _ => rfl) 3 [0, 1, 2] [] s 0 (by decide) h
    (fun j s x hj _ hs => by
      obtain ⟨r1, s1, e1, a1, b1, o1⟩ := LA.pickT HA (m := n) (by omega) hs (by omega) (many := 2 * size + 1) (by omega) bz2
      obtain ⟨r2, s2, e2, a2, b2, o2⟩ := LA.pickT HA (m := n) (by omega) o1 (by omega) (many := 3) (by omega) k3
      have br : Bd 12 (r1 - size) := K1.of_le (by omega)
      by_cases c : r2 < 1
      · have r0 : r2 = 0 := by omega
        subst r0
        have mm := mul_ok br (by decide : Bd 1 0)
        refine ⟨.int ((r1 - size) * 0), s2, ?_, ⟨_, rfl, by rw [Int.mul_zero]; omega, by rw [Int.mul_zero]; omega⟩, o2.mono (by omega)⟩
        simp_arith [mz, e1, e2, min2F, mm]
      · have mm := mul_ok br (by decide : Bd 1 1)
        refine ⟨.int ((r1 - size) * 1), s2, ?_, ⟨_, rfl, by rw [Int.mul_one]; omega, by rw [Int.mul_one]; omega⟩, o2.mono (by omega)⟩
        simp_arith [mz, e1, e2, min2F, c, mm]) (by decide)
  obtain ⟨a, b, c, rfl⟩ : ∃ a b c, ts = [a, b, c] := by
    match ts, len with
    | [a, b, c], _ => exact ⟨a, b, c, rfl⟩
  obtain ⟨a, rfl, a0, a1⟩ := fs a (by simp)
  obtain ⟨b, rfl, b0, b1⟩ := fs b (by simp)
  obtain ⟨c, rfl, c0, c1⟩ := fs c (by simp)
  rw [show ([0, 1, 2] : List Int).map T.int = rngTs 0 3 from rfl, List.nil_append] at e1
  obtain ⟨r2, s2, e2, a2, b2, o2⟩ := LA.pickT HA (m := n) (by omega) i1 (by simp; omega) (many := 3) (by omega) k3
  obtain ⟨r3, s3, e3, a3, b3, o3⟩ := LA.pickT HA (m := n) (by omega) o2 (by simp; omega) (many := 2 * limit + 1) (by omega) bl2
  have sm : ∀ w, Sm (.sum w a b c (r3 - limit)) := fun w => ⟨(K1.of_le (by omega)).mono (by omega), (K1.of_le (by omega)).mono (by omega), (K1.of_le (by omega)).mono (by omega), (K1.of_le (by omega)).mono (by omega)⟩
  have o : LA.SOk (k + 8) s3 := o3.mono (by simp)
  have cr : r2 = 0 ∨ r2 = 1 ∨ r2 = 2 := by omega
  rcases cr with rfl | rfl | rfl
  · refine ⟨s3, .less, a, b, c, r3 - limit, ?_, ⟨rfl, rfl, sm _, Nat.le_refl _⟩, o⟩
    simp_arith [fn__law_sum, cd__law_sum, e1, tupleF, e2, lix30, ml, e3, Say.t]
    rfl
  · refine ⟨s3, .most, a, b, c, r3 - limit, ?_, ⟨rfl, rfl, sm _, Nat.le_refl _⟩, o⟩
    simp_arith [fn__law_sum, cd__law_sum, e1, tupleF, e2, lix31, ml, e3, Say.t]
    rfl
  · refine ⟨s3, .equal, a, b, c, r3 - limit, ?_, ⟨rfl, rfl, sm _, Nat.le_refl _⟩, o⟩
    simp_arith [fn__law_sum, cd__law_sum, e1, tupleF, e2, lix32, ml, e3, Say.t]
    rfl
theorem law_atom (HA : LA.Has Γ) (H : Has Γ) {m k : Nat} {s : Sr} {size limit : Int} {o : Ob} (ho : strip o = s.ob) (hm : 3 ≤ m) (h : LA.SOk k s) (hk : k ≤ 800000) (z0 : 0 ≤ size) (z1 : size ≤ 1000) (l0 : 0 ≤ limit) (l1 : limit ≤ 1000) :
    ∃ (s' : Sr) (q : Say), callN Γ m "_law_atom" [.own o, .v (.int size), .v (.int limit)] = .rt (.v q.t) [.own (retag o s'.ob), .v (.int size), .v (.int limit)] ∧ Gd 1 q ∧ q.atom = true ∧ LA.SOk (k + 12) s' := by
  obtain ⟨n, rfl⟩ : ∃ n, m = n + 1 := ⟨m - 1, by omega⟩
  obtain ⟨kk, hkk⟩ := H._law_atom
  rw [callN_eq hkk]
  have k3 : Bd 9000 3 := (by decide : Bd 2 3).mono (by omega)
  have k5 : Bd 9000 5 := (by decide : Bd 3 5).mono (by omega)
  have k7 : Bd 9000 7 := (by decide : Bd 3 7).mono (by omega)
  obtain ⟨r1, s1, e1, a1, b1, o1⟩ := LA.pickT HA (m := n) (by omega) h (by omega) (many := 5) (by omega) k5
  by_cases c : r1 < 3
  · obtain ⟨s2, w, a, b, d, l, e2, g, o2⟩ := law_sum HA H (m := n) (by omega) o1 (by omega) z0 z1 l0 l1
    refine ⟨s2, _, ?_, g, rfl, o2.mono (by omega)⟩
    simp_arith [fn__law_atom, cd__law_atom, ho, e1, c, e2]
  · obtain ⟨r2, s2, e2, a2, b2, o2⟩ := LA.pickT HA (m := n) (by omega) o1 (by omega) (many := 5) (by omega) k5
    obtain ⟨r3, s3, e3, a3, b3, o3⟩ := LA.pickT HA (m := n) (by omega) o2 (by omega) (many := 3) (by omega) k3
    obtain ⟨r4, s4, e4, a4, b4, o4⟩ := LA.pickT HA (m := n) (by omega) o3 (by omega) (many := 2 + r2) (by omega) (k7.of_le (by omega))
    by_cases c3 : r1 = 3
    · subst c3
      refine ⟨s4, .rest r3 (2 + r2) r4, ?_, ⟨⟨⟨a3, b3⟩, by omega, a4, b4⟩, rfl, trivial, Nat.le_refl _⟩, rfl, o4.mono (by omega)⟩
      simp_arith [fn__law_atom, cd__law_atom, ho, e1, e2, e3, e4, Say.t]
      rfl
    · obtain ⟨r5, s5, e5, a5, b5, o5⟩ := LA.pickT HA (m := n) (by omega) o4 (by omega) (many := 3) (by omega) k3
      refine ⟨s5, .whole r5, ?_, ⟨⟨a5, b5⟩, rfl, trivial, Nat.le_refl _⟩, rfl, o5.mono (by omega)⟩
      simp_arith [fn__law_atom, cd__law_atom, ho, e1, c, c3, e2, e3, e4, e5, Say.t]
      rfl
theorem in3 (w : W) : inF (.str w.s) (.tuple [.str "not", .str "both", .str "either"]) = some (.v (.bool w.isJ)) := by cases w <;> rfl
theorem inS3 (w : W) : inF (.str w.s) (.tuple [.str "less", .str "most", .str "equal"]) = some (.v (.bool w.isS)) := by cases w <;> rfl
theorem inT2 (w : W) : inF (.str w.s) (.tuple [.str "some", .str "every"]) = some (.v (.bool w.isT)) := by cases w <;> rfl
def W.isR : W → Bool
  | .whole => true
  | .rest => true
  | _ => false
theorem inR2 (w : W) : inF (.str w.s) (.tuple [.str "whole", .str "rest"]) = some (.v (.bool (W.isR w))) := by cases w <;> rfl
theorem isS_R {w : W} (h : w.isS = true) : W.isR w = false := by cases w <;> first | rfl | cases h
theorem isB_R {w : W} (h : w.isB = true) : W.isR w = false := by cases w <;> first | rfl | cases h
theorem isT_R {w : W} (h : w.isT = true) : W.isR w = false := by cases w <;> first | rfl | cases h
theorem law_inner (H : Has Γ) {m : Nat} (hm : 1 ≤ m) {s : Say} (h : s.Ok) : callN Γ m "_law_inner" [.v s.t] = .rt (.fr (.lst (s.inn.map Say.t))) [.v s.t] := by
  obtain ⟨n, rfl⟩ : ∃ n, m = n + 1 := ⟨m - 1, by omega⟩
  obtain ⟨k, hk⟩ := H._law_inner
  rw [callN_eq hk]
  cases s with
  | sum w a b c l => simp_arith [fn__law_inner, cd__law_inner, Say.t, Say.inn, ix30, in3, inT2, isS_J h, isS_T h]
  | whole i => simp_arith [fn__law_inner, cd__law_inner, Say.t, Say.inn, ix20, in3, inT2, W.isJ, W.isT]
  | rest i m r => simp_arith [fn__law_inner, cd__law_inner, Say.t, Say.inn, ix40, in3, inT2, W.isJ, W.isT]
  | neg s => simp_arith [fn__law_inner, cd__law_inner, Say.t, Say.inn, ix20, in3, inT2, W.isJ, W.isT, slF, cut2_1, listF]
  | two w s t => simp_arith [fn__law_inner, cd__law_inner, Say.t, Say.inn, ix30, in3, inT2, isB_J h.1, isB_T h.1, slF, cut3_1, listF]
  | q w i s => simp_arith [fn__law_inner, cd__law_inner, Say.t, Say.inn, ix30, ix32, in3, inT2, isT_J h.1, (show w.isT = true from h.1)]
theorem in_ints (i : Int) (ks : List Int) : inF (.int i) (.list (ks.map .int)) = some (.v (.bool (decide (i ∈ ks)))) := by
  have h1 : (ks.map T.int).all flatT = true := by simp [flatT]
  have h2 : ((ks.map T.int).any fun t => eqFT t (.int i)) = decide (i ∈ ks) := by
    rw [List.any_map, Bool.eq_iff_iff]
    simp [eqFT]
  simp only [inF, seqT, Option.bind_some, Ev.inT, h1, h2, flatT, Bool.and_self, if_true, Option.map_some]
theorem law_free (H : Has Γ) : ∀ (s : Say) (m : Nat), s.Ok → s.sz + 1 ≤ m → callN Γ m "_law_free" [.v s.t] = .rt (.v (.tuple (flT s))) [.v s.t] := by
  intro s
  induction s with
  | sum w a b c l =>
    intro m h hm
    obtain ⟨n, rfl⟩ : ∃ n, m = n + 1 := ⟨m - 1, by omega⟩
    obtain ⟨k, hk⟩ := H._law_free
    rw [callN_eq hk]
    have l2 := lc_filter (i := 5) (env := [.v (Say.sum w a b c l).t, .v (.str w.s), .non, .non, .non, .non]) (C := (mTest (mOp neF (mOp ixF (mOp ixF (mVar 0) (mK (.int 1))) (mVar 5)) (mK (.int 0))))) (E := mVar 5) rfl T.int T.int (nz a b c) [0, 1, 2]
      (fun i m => by simp_arith [Say.t, ix31, ix_co a b c (mem3 m).1 (mem3 m).2, nz]) (fun i m _ => by simp_arith []) (by decide)
    rw [show ([0, 1, 2] : List Int).map T.int = rngTs 0 3 from rfl, Say.t] at l2
    simp_arith [fn__law_free, cd__law_free, l2, tupleF, Say.t, ix30, inS3, (show w.isS = true from h)]
    rfl
  | whole i =>
    intro m h hm
    obtain ⟨n, rfl⟩ : ∃ n, m = n + 1 := ⟨m - 1, by omega⟩
    obtain ⟨k, hk⟩ := H._law_free
    rw [callN_eq hk]
    simp_arith [fn__law_free, cd__law_free, Say.t, ix20, ix21, inS3, inR2, W.isS, W.isR, flT, fl, fv, asc_one h.1 h.2]
  | rest i j r =>
    intro m h hm
    obtain ⟨n, rfl⟩ : ∃ n, m = n + 1 := ⟨m - 1, by omega⟩
    obtain ⟨k, hk⟩ := H._law_free
    rw [callN_eq hk]
    simp_arith [fn__law_free, cd__law_free, Say.t, ix40, ix41, inS3, inR2, W.isS, W.isR, flT, fl, fv, asc_one h.1.1 h.1.2]
  | neg s ih =>
    intro m h hm
    obtain ⟨n, rfl⟩ : ∃ n, m = n + 1 := ⟨m - 1, by omega⟩
    obtain ⟨k, hk⟩ := H._law_free
    rw [callN_eq hk]
    have hz : s.sz + 1 + 1 ≤ n + 1 := hm
    have e1 := law_inner H (m := n) (by omega) h
    rw [Say.t] at e1
    have e2 := ih n h (by omega)
    have hl := asc_len (fv s)
    have line : 0 + (flT s).length ≤ PySem.sizeLine := by
      have : (3 : Nat) ≤ PySem.sizeLine := by decide
      have : (flT s).length = (asc (fv s)).length := by simp [flT, fl]
      omega
    have l2 := lc_filter (i := 5) (env := [.v (Say.neg s).t, .v (.str W.not.s), .own (.lst (flT s)), .v s.t, .v (.int (-1)), .non]) (C := (mAndT (mTest (mOp inF (mVar 5) (mVar 2))) (mTest (mOp neF (mVar 5) (mVar 4))))) (E := mVar 5) rfl T.int T.int (fv s) [0, 1, 2]
      (fun i m => by
        have := in_ints i (fl s)
        have hi := mem3 m
        have ne : decide (i = -1) = false := by simp; omega
        have : (decide (i ∈ fl s)) = fv s i := by rw [Bool.eq_iff_iff]; simp [fl, mem_asc, hi.1, hi.2]
        simp_arith [flT, in_ints, this, ne]
        cases fv s i <;> rfl) (fun i m _ => by simp_arith []) (by decide)
    rw [show ([0, 1, 2] : List Int).map T.int = rngTs 0 3 from rfl, Say.t] at l2
    simp_arith [fn__law_free, cd__law_free, e1, e2, Say.inn, itemsOf, at_for1, Say.t, ix20, inS3, inR2, inT2, W.isS, W.isR, W.isT, line, listF, l2, tupleF]
    rfl
  | two w s t ih1 ih2 =>
    intro m h hm
    obtain ⟨n, rfl⟩ : ∃ n, m = n + 1 := ⟨m - 1, by omega⟩
    obtain ⟨k, hk⟩ := H._law_free
    rw [callN_eq hk]
    have hz : s.sz + t.sz + 1 + 1 ≤ n + 1 := hm
    have s1 := s.sz_pos
    have t1 := t.sz_pos
    have e1 := law_inner H (m := n) (by omega) h
    rw [Say.t] at e1
    have e2 := ih1 n h.2.1 (by omega)
    have e3 := ih2 n h.2.2 (by omega)
    have hl := asc_len (fv s)
    have hl2 := asc_len (fv t)
    have big : (6 : Nat) ≤ PySem.sizeLine := by decide
    have ll : (flT s).length = (asc (fv s)).length := by simp [flT, fl]
    have ll2 : (flT t).length = (asc (fv t)).length := by simp [flT, fl]
    have line : 0 + (flT s).length ≤ PySem.sizeLine := by omega
    have line2 : (flT s).length + (flT t).length ≤ PySem.sizeLine := by omega
    have l2 := lc_filter (i := 5) (env := [.v (Say.two w s t).t, .v (.str w.s), .own (.lst (flT s ++ flT t)), .v t.t, .v (.int (-1)), .non]) (C := (mAndT (mTest (mOp inF (mVar 5) (mVar 2))) (mTest (mOp neF (mVar 5) (mVar 4))))) (E := mVar 5) rfl T.int T.int (fun i => fv s i || fv t i) [0, 1, 2]
      (fun i m => by
        have hi := mem3 m
        have ne : decide (i = -1) = false := by simp; omega
        have ap : flT s ++ flT t = (fl s ++ fl t).map T.int := by simp [flT]
        have : (decide (i ∈ fl s ++ fl t)) = (fv s i || fv t i) := by rw [Bool.eq_iff_iff]; simp [fl, mem_asc, hi.1, hi.2]
        simp_arith [ap, in_ints, this, ne]
        cases (fv s i || fv t i) <;> rfl) (fun i m _ => by simp_arith []) (by decide)
    rw [show ([0, 1, 2] : List Int).map T.int = rngTs 0 3 from rfl, Say.t] at l2
    simp_arith [fn__law_free, cd__law_free, e1, e2, e3, Say.inn, itemsOf, at_for1, Say.t, ix30, inS3, inR2, inT2, isB_S h.1, isB_R h.1, isB_T h.1, line, line2, listF, l2, tupleF]
    rfl
  | q w j s ih =>
    intro m h hm
    obtain ⟨n, rfl⟩ : ∃ n, m = n + 1 := ⟨m - 1, by omega⟩
    obtain ⟨k, hk⟩ := H._law_free
    rw [callN_eq hk]
    have hz : s.sz + 1 + 1 ≤ n + 1 := hm
    have e1 := law_inner H (m := n) (by omega) h
    rw [Say.t] at e1
    have e2 := ih n h.2.2 (by omega)
    have hl := asc_len (fv s)
    have line : 0 + (flT s).length ≤ PySem.sizeLine := by
      have : (3 : Nat) ≤ PySem.sizeLine := by decide
      have : (flT s).length = (asc (fv s)).length := by simp [flT, fl]
      omega
    have l2 := lc_filter (i := 5) (env := [.v (Say.q w j s).t, .v (.str w.s), .own (.lst (flT s)), .v s.t, .v (.int j), .non]) (C := (mAndT (mTest (mOp inF (mVar 5) (mVar 2))) (mTest (mOp neF (mVar 5) (mVar 4))))) (E := mVar 5) rfl T.int T.int (fun i => fv s i && !decide (i = j)) [0, 1, 2]
      (fun i m => by
        have hi := mem3 m
        have : (decide (i ∈ fl s)) = fv s i := by rw [Bool.eq_iff_iff]; simp [fl, mem_asc, hi.1, hi.2]
        simp_arith [flT, in_ints, this]
        cases fv s i <;> rfl) (fun i m _ => by simp_arith []) (by decide)
    rw [show ([0, 1, 2] : List Int).map T.int = rngTs 0 3 from rfl, Say.t] at l2
    simp_arith [fn__law_free, cd__law_free, e1, e2, Say.inn, itemsOf, at_for1, Say.t, ix30, ix31, inS3, inR2, inT2, isT_S h.1, isT_R h.1, (show w.isT = true from h.1), line, listF, l2, tupleF]
    rfl
/-! ### truth -/
def gl (g : Int → Int × Int) : T := .list [gT g 0, gT g 1, gT g 2]
theorem gl_ix (g : Int → Int × Int) {i : Int} (h0 : 0 ≤ i) (h1 : i < 3) : ixF (gl g) (.int i) = some (.v (gT g i)) := by
  have : i = 0 ∨ i = 1 ∨ i = 2 := by omega
  rcases this with rfl | rfl | rfl <;> rfl
def G3 (g : Int → Int × Int) : Prop := ∀ i, 0 ≤ i → i < 3 → Red 4000 (g i).1 (g i).2
theorem G3.ok {g : Int → Int × Int} (h : G3 g) (f : Int → Bool) : GOk g (asc f) := fun i m => h i (mem_asc.mp m).1.1 (mem_asc.mp m).1.2
theorem law_holds (H : Has Γ) {g : Int → Int × Int} (hg : G3 g) : ∀ (s : Say) (m : Nat), s.Ok → plain s = true → Sm s → s.sz + 1 ≤ m → callN Γ m "_law_holds" [.v s.t, .v (gl g)] = .rt (.v (.bool (holds g s))) [.v s.t, .v (gl g)] := by
  intro s
  induction s with
  | sum w a b c l =>
    intro m h _ hb hm
    obtain ⟨n, rfl⟩ : ∃ n, m = n + 1 := ⟨m - 1, by omega⟩
    obtain ⟨k, hk⟩ := H._law_holds
    rw [callN_eq hk]
    have hc : ∀ i, Bd 200 (co a b c i) := fun i => co_bd ⟨hb.1, hb.2.1, hb.2.2.1⟩
    obtain ⟨l1, b1⟩ := for_foldI (σ := (Int × Int) × Sl × Sl) (b := bName 7) (S := (mIfS (mTest (mOp neF (mOp ixF (mOp ixF (mVar 0) (mK (.int 1))) (mVar 7)) (mK (.int 0)))) (mSeq (mSet 8 (mOp ixF (mVar 1) (mVar 7)))
    (mPar [5, 6] (mCons (mOp addF (mOp mulF (mVar 5) (mOp ixF (mVar 8) (mK (.int 1)))) (mOp mulF (mOp mulF (mOp ixF (mOp ixF (mVar 0) (mK (.int 1))) (mVar 7)) (mOp ixF (mVar 8) (mK (.int 0)))) (mVar 6))) (mCons (mOp mulF (mVar 6) (mOp ixF (mVar 8) (mK (.int 1)))) mNil)))) mPass)) (fun s => [.v (Say.sum w a b c l).t, .v (gl g), .v (.str w.s), .non, .non, .v (.int s.1.1), .v (.int s.1.2), s.2.1, s.2.2, .non]) T.int
      (fun s i => (if nz a b c i then topF (co a b c) g s.1 i else s.1, .v (.int i), if nz a b c i then .v (gT g i) else s.2.2)) 3 (fun k s => Bd (4201 + 4001 * k) s.1.1 ∧ Bd (4001 * k + 1) s.1.2) [0, 1, 2] 0 ((-l, 1), .non, .non) (by decide) ⟨hb.2.2.2.neg.mono (by omega), (show Bd (4001 * 0 + 1) 1 by decide)⟩
      (fun k s hk p i m => by
        obtain ⟨⟨t, b'⟩, x, y⟩ := s
        obtain ⟨p1, p2⟩ := p
        have p1 : Bd (4201 + 4001 * k) t := p1
        have p2 : Bd (4001 * k + 1) b' := p2
        have ix := ix_co a b c (mem3 m).1 (mem3 m).2
        have gx := gl_ix g (mem3 m).1 (mem3 m).2
        have r := hg i (mem3 m).1 (mem3 m).2
        have bc := hc i
        cases z : nz a b c i with
        | true =>
          have z' : ¬ co a b c i = 0 := by simpa [nz] using z
          refine ⟨?_, ⟨(((p1.mul r.bq).mono (by omega)).add (k := 4201 + 4001 * k + 4000) (((bc.mul r.bp).mul p2).mono (by omega))).mono (by omega), (p2.mul r.bq).mono (by omega)⟩⟩
          have m1 := mul_ok p1 r.bq (by omega)
          have m2 := mul_ok bc r.bp
          have m3 := mul_ok (bc.mul r.bp) p2 (by omega)
          have m4 := mul_ok p2 r.bq (by omega)
          simp_arith [Say.t, ix31, ix, gx, gT0, gT1, z', m1, m2, m3, m4, topF]
        | false =>
          have z' : co a b c i = 0 := by simpa [nz] using z
          refine ⟨?_, p1.mono (by omega), p2.mono (by omega)⟩
          simp_arith [Say.t, ix31, ix, z'])
    have eT : (([0, 1, 2] : List Int).foldl (fun (s : (Int × Int) × Sl × Sl) i => (if nz a b c i then topF (co a b c) g s.1 i else s.1, Sl.v (.int i), if nz a b c i then Sl.v (gT g i) else s.2.2)) ((-l, 1), .non, .non)).1.1 = topOf a b c l g := by
      have key : ∀ (xs : List Int) (s : (Int × Int) × Sl × Sl), (xs.foldl (fun (s : (Int × Int) × Sl × Sl) i => (if nz a b c i then topF (co a b c) g s.1 i else s.1, Sl.v (.int i), if nz a b c i then Sl.v (gT g i) else s.2.2)) s).1 = xs.foldl (fun s i => if nz a b c i then topF (co a b c) g s i else s) s.1 := by
        intro xs
        induction xs with
        | nil => intro s; rfl
        | cons x xs ih => intro s; rw [List.foldl_cons, List.foldl_cons, ih]
      rw [key]; rfl
    generalize ([0, 1, 2] : List Int).foldl _ _ = s2 at l1 eT
    obtain ⟨⟨t2, b2⟩, x2, y2⟩ := s2
    have eT : t2 = topOf a b c l g := eT
    subst eT
    have ht : holds g (.sum w a b c l) = truth w (topOf a b c l g) := rfl
    rw [ht]
    generalize topOf a b c l g = top at l1 ⊢
    rw [show ([0, 1, 2] : List Int).map T.int = rngTs 0 3 from rfl, Say.t] at l1
    have hw : w.isS = true := h
    have hc : w = .less ∨ w = .most ∨ w = .equal := by cases w <;> first | (cases hw; done) | simp
    rcases hc with rfl | rfl | rfl
    · by_cases c1 : top < 0
      · simp_arith [fn__law_holds, cd__law_holds, Say.t, ix30, ix32, in3, inR2, W.isJ, W.isR, l1, eq_equal, eq_most, truth, c1]
      · simp_arith [fn__law_holds, cd__law_holds, Say.t, ix30, ix32, in3, inR2, W.isJ, W.isR, l1, eq_equal, eq_most, truth, c1]
    · by_cases c1 : top < 0
      · have c2 : top ≤ 0 := by omega
        simp_arith [fn__law_holds, cd__law_holds, Say.t, ix30, ix32, in3, inR2, W.isJ, W.isR, l1, eq_equal, eq_most, truth, c1, c2]
      · have c2 : (top ≤ 0) = (top = 0) := propext ⟨fun z => by omega, fun z => by omega⟩
        simp_arith [fn__law_holds, cd__law_holds, Say.t, ix30, ix32, in3, inR2, W.isJ, W.isR, l1, eq_equal, eq_most, truth, c1, c2]
    · simp_arith [fn__law_holds, cd__law_holds, Say.t, ix30, ix32, in3, inR2, W.isJ, W.isR, l1, eq_equal, eq_most, truth]
  | whole i =>
    intro m h _ hb hm
    obtain ⟨n, rfl⟩ : ∃ n, m = n + 1 := ⟨m - 1, by omega⟩
    obtain ⟨k, hk⟩ := H._law_holds
    rw [callN_eq hk]
    have d := gl_ix g h.1 h.2
    by_cases q : (g i).2 = 1
    · simp_arith [fn__law_holds, cd__law_holds, Say.t, ix20, ix21, in3, inR2, W.isJ, W.isR, d, gT1, q, eq_whole, holds]
    · simp_arith [fn__law_holds, cd__law_holds, Say.t, ix20, ix21, in3, inR2, W.isJ, W.isR, d, gT1, q, eq_whole, holds]
  | rest i j r =>
    intro m h _ hb hm
    obtain ⟨n, rfl⟩ : ∃ n, m = n + 1 := ⟨m - 1, by omega⟩
    obtain ⟨k, hk⟩ := H._law_holds
    rw [callN_eq hk]
    have d := gl_ix g h.1.1 h.1.2
    have m0 : j ≠ 0 := by have := h.2.1; omega
    by_cases q : (g i).2 = 1
    · simp_arith [fn__law_holds, cd__law_holds, Say.t, ix40, ix41, ix42, ix43, in3, inR2, W.isJ, W.isR, d, gT0, gT1, q, eq_whole, mod_ok m0, holds, Bool.true_and]
    · simp_arith [fn__law_holds, cd__law_holds, Say.t, ix40, ix41, ix42, ix43, in3, inR2, W.isJ, W.isR, d, gT0, gT1, q, eq_whole, holds, Bool.false_and]
  | neg s ih =>
    intro m h hp hb hm
    obtain ⟨n, rfl⟩ : ∃ n, m = n + 1 := ⟨m - 1, by omega⟩
    obtain ⟨k, hk⟩ := H._law_holds
    rw [callN_eq hk]
    have hz : s.sz + 1 + 1 ≤ n + 1 := hm
    have e2 := ih n h hp hb (by omega)
    simp_arith [fn__law_holds, cd__law_holds, Say.t, ix20, in3, W.isJ, slF, cut2_1, itemsOf, at_lc1, e2, eq_not, lix10, holds]
  | two w s t ih1 ih2 =>
    intro m h hp hb hm
    obtain ⟨n, rfl⟩ : ∃ n, m = n + 1 := ⟨m - 1, by omega⟩
    obtain ⟨k, hk⟩ := H._law_holds
    rw [callN_eq hk]
    have hp' : plain s = true ∧ plain t = true := by simpa [plain] using hp
    have hz : s.sz + t.sz + 1 + 1 ≤ n + 1 := hm
    have s1 := s.sz_pos
    have t1 := t.sz_pos
    have e1 := ih1 n h.2.1 hp'.1 hb.1 (by omega)
    have e2 := ih2 n h.2.2 hp'.2 hb.2 (by omega)
    have hw : w.isB = true := h.1
    have hc : w = .both ∨ w = .either := by cases w <;> first | (cases hw; done) | simp
    rcases hc with rfl | rfl
    · cases q1 : holds g s <;> (rw [q1] at e1; simp_arith [fn__law_holds, cd__law_holds, Say.t, ix30, in3, W.isJ, slF, cut3_1, itemsOf, at_lc1, e1, e2, eq_not, eq_both, lix20, lix21, holds, q1, Bool.true_and, Bool.false_and])
    · cases q1 : holds g s <;> (rw [q1] at e1; simp_arith [fn__law_holds, cd__law_holds, Say.t, ix30, in3, W.isJ, slF, cut3_1, itemsOf, at_lc1, e1, e2, eq_not, eq_both, lix20, lix21, holds, q1, Bool.true_or, Bool.false_or])
  | q w j s ih => intro m h hp; cases hp
/-! ### numbers -/
theorem red_int (x : Int) {k : Nat} (h : Bd (k + 1) x) : Red (k + 1) x 1 := ⟨Int.le_refl _, by simp, h, (by decide : Bd 1 1).mono (by omega)⟩
theorem law_number (HA : LA.Has Γ) (H : Has Γ) {m k : Nat} {s : Sr} {o : Ob} (ho : strip o = s.ob) (hm : 2 ≤ m) (h : LA.SOk k s) (hk : k ≤ 900000) :
    ∃ (s' : Sr) (p q : Int), callN Γ m "_law_number" [.own o] = .rt (.v (fr p q)) [.own (retag o s'.ob)] ∧ Red 4000 p q ∧ LA.SOk (k + 3) s' := by
  obtain ⟨n, rfl⟩ : ∃ n, m = n + 1 := ⟨m - 1, by omega⟩
  obtain ⟨kk, hkk⟩ := H._law_number
  rw [callN_eq hkk]
  have B : Bd 200 1000000000000000000000000000000000 := by decide
  have b9 : ∀ x : Int, 0 ≤ x → x ≤ 1000000000000000000000000000000000 → Bd 9000 x := fun x h0 h1 => (B.of_le (x := x) (by omega)).mono (by omega)
  have b4 : ∀ x : Int, -1000000000000000000000000000000000 ≤ x → x ≤ 1000000000000000000000000000000000 → Bd 4000 x := fun x h0 h1 => (B.of_le (x := x) (by omega)).mono (by omega)
  obtain ⟨r1, s1, e1, a1, c1, o1⟩ := LA.pickT HA (m := n) (by omega) h (by omega) (many := 8) (by omega) (b9 8 (by omega) (by omega))
  by_cases w2 : r1 < 2
  · obtain ⟨r2, s2, e2, a2, c2, o2⟩ := LA.pickT HA (m := n) (by omega) o1 (by omega) (many := 41) (by omega) (b9 _ (by omega) (by omega))
    refine ⟨s2, r2 - 20, 1, ?_, red_int _ (b4 _ (by omega) (by omega)), o2.mono (by omega)⟩
    simp_arith [fn__law_number, cd__law_number, ho, e1, w2, e2]
  · by_cases w6 : r1 < 6
    · obtain ⟨r2, s2, e2, a2, c2, o2⟩ := LA.pickT HA (m := n) (by omega) o1 (by omega) (many := 121) (by omega) (b9 _ (by omega) (by omega))
      obtain ⟨r3, s3, e3, a3, c3, o3⟩ := LA.pickT HA (m := n) (by omega) o2 (by omega) (many := 12) (by omega) (b9 _ (by omega) (by omega))
      have q0 : 1 + r3 ≠ 0 := by omega
      have ba := b4 (r2 - 60) (by omega) (by omega)
      have bb := b4 (1 + r3) (by omega) (by omega)
      have e4 := LA.frac HA (m := n) (by omega) q0 ba bb
      refine ⟨s3, _, _, ?_, low_red q0 ba bb, o3.mono (by omega)⟩
      simp_arith [fn__law_number, cd__law_number, ho, e1, w2, w6, e2, e3, e4]
    · by_cases w7 : r1 = 6
      · have p6 : powXF (.int 10) (.int 6) = some (.v (.int 1000000)) := by rfl
        have k2 : Bd 2 2 := by decide
        have m6 : mulF (.int 2) (.int 1000000) = some (.v (.int 2000000)) := by rfl
        obtain ⟨r2, s2, e2, a2, c2, o2⟩ := LA.pickT HA (m := n) (by omega) o1 (by omega) (many := 2000001) (by omega) (b9 _ (by omega) (by omega))
        obtain ⟨r3, s3, e3, a3, c3, o3⟩ := LA.pickT HA (m := n) (by omega) o2 (by omega) (many := 1000) (by omega) (b9 _ (by omega) (by omega))
        have q0 : 1 + r3 ≠ 0 := by omega
        have ba := b4 (r2 - 1000000) (by omega) (by omega)
        have bb := b4 (1 + r3) (by omega) (by omega)
        have e4 := LA.frac HA (m := n) (by omega) q0 ba bb
        refine ⟨s3, _, _, ?_, low_red q0 ba bb, o3.mono (by omega)⟩
        simp_arith [fn__law_number, cd__law_number, ho, e1, w2, w6, w7, p6, m6, e2, e3, e4]
      · have p6 : powXF (.int 10) (.int 29) = some (.v (.int 100000000000000000000000000000)) := by rfl
        have m6 : mulF (.int 2) (.int 100000000000000000000000000000) = some (.v (.int 200000000000000000000000000000)) := by rfl
        obtain ⟨r2, s2, e2, a2, c2, o2⟩ := LA.pickT HA (m := n) (by omega) o1 (by omega) (many := 200000000000000000000000000001) (by omega) (b9 _ (by omega) (by omega))
        obtain ⟨r3, s3, e3, a3, c3, o3⟩ := LA.pickT HA (m := n) (by omega) o2 (by omega) (many := 100000000000000000000000000000) (by omega) (b9 _ (by omega) (by omega))
        have q0 : 1 + r3 ≠ 0 := by omega
        have ba := b4 (r2 - 100000000000000000000000000000) (by omega) (by omega)
        have bb := b4 (1 + r3) (by omega) (by omega)
        have e4 := LA.frac HA (m := n) (by omega) q0 ba bb
        refine ⟨s3, _, _, ?_, low_red q0 ba bb, o3.mono (by omega)⟩
        simp_arith [fn__law_number, cd__law_number, ho, e1, w2, w6, w7, p6, m6, e2, e3, e4]
theorem pow_pos10 (k : Nat) : (0 : Int) < 10 ^ k := Int.pow_pos (by decide)
theorem law_tens (H : Has Γ) {m : Nat} (hm : 1 ≤ m) {r : Int} (h0 : 0 ≤ r) (h1 : r ≤ 100) : callN Γ m "_law_tens" [.v (.int r)] = .rt (.v (.int (10 ^ r.toNat))) [.v (.int r)] := by
  obtain ⟨n, rfl⟩ : ∃ n, m = n + 1 := ⟨m - 1, by omega⟩
  obtain ⟨k, hk⟩ := H._law_tens
  rw [callN_eq hk]
  have rg : (-4611686018427387904 ≤ r ∧ r < 4611686018427387904) = True := eq_true ⟨by omega, by omega⟩
  obtain ⟨e', l, P⟩ := for_inv (b := bName 2) (S := (mSet 1 (mOp mulF (mVar 1) (mK (.int 10))))) (n := r.toNat) (fun k e => ∃ x, e = [.v (.int r), .v (.int (10 ^ k)), x]) (fun i t e li p => by
    obtain ⟨x, rfl⟩ := p
    have b1 : Bd (4 * (i + 1)) (10 ^ (i + 1)) := (by decide : Bd 4 10).pow i
    have b0 : Bd (4 * (i + 1)) (10 ^ i : Int) := b1.of_le (by
      have := pow_pos10 i
      have := pow_pos10 (i + 1)
      have : (10 : Int) ^ (i + 1) = 10 ^ i * 10 := Int.pow_succ _ _
      omega)
    have mm := mul_ok b0 (by decide : Bd 4 10) (by omega)
    refine ⟨_, ?_, .v t, rfl⟩
    simp_arith [mm, Int.pow_succ]) (rngTs 0 r.toNat) 0 [.v (.int r), .v (.int 1), .non] (by rw [rng_len]; omega) ⟨.non, rfl⟩
  obtain ⟨x, rfl⟩ := P
  rw [rng_len, Nat.zero_add] at l
  simp_arith [fn__law_tens, cd__law_tens, rg, l]
end
end LS
end P_LS

noncomputable section P_Code_K20
set_option linter.all false
set_option maxRecDepth 100000
/-! The code of a T.py as terms of the layer Ev; printed by gen.py. -/
namespace K20
open Ev

def K_SUMS : T := (.tuple [(.str "less"), (.str "most"), (.str "equal")])
def K_TRIED : T := (.tuple [(.str "some"), (.str "every")])
def K_JOINED : List (PySem.Str × T) := [(PySem.Str.ofString "not", (.int 1)), (PySem.Str.ofString "both", (.int 2)), (PySem.Str.ofString "either", (.int 2))]
def N_is_integer : List PySem.Str := [PySem.Str.ofString "value"]
def cd_is_integer (cf : CF) : MS :=
    (mRet (mAndV (mIsi .int (mVar 0)) (mNotV (mIsi .bool (mVar 0)))))
def fn_is_integer : Fn := { ps := ["value"], n := 1, body := cd_is_integer, kws := [] }
def N_is_below : List PySem.Str := [PySem.Str.ofString "value", PySem.Str.ofString "many"]
def cd_is_below (cf : CF) : MS :=
    (mRet (mAndV (mCall cf "is_integer" [false] (mCons (mVar 0) mNil)) (mChain leF ltF (mK (.int 0)) (mVar 0) (mVar 1))))
def fn_is_below : Fn := { ps := ["value", "many"], n := 2, body := cd_is_below, kws := [] }
def N_is_fraction : List PySem.Str := [PySem.Str.ofString "value", PySem.Str.ofString "top", PySem.Str.ofString "bottom"]
def cd_is_fraction (cf : CF) : MS :=
    (mSeq (mIfS (mOrT (mNotT (mTest (mIsi .tuple (mVar 0)))) (mTest (mOp neF (mB lenF (mCons (mVar 0) mNil)) (mK (.int 2))))) (mRet (mK (.bool false))) mPass)
    (mSeq (mUnp (mVar 0) (bTup 2 (bCons (bName 1) (bCons (bName 2) bNil))))
    (mRet (mAndV (mCall cf "is_integer" [false] (mCons (mVar 1) mNil)) (mAndV (mCall cf "is_integer" [false] (mCons (mVar 2) mNil)) (mAndV (mOp geF (mVar 2) (mK (.int 1))) (mOp eqF (mB gcdF (mCons (mVar 1) (mCons (mVar 2) mNil))) (mK (.int 1)))))))))
def fn_is_fraction : Fn := { ps := ["value"], n := 3, body := cd_is_fraction, kws := [] }
def N_is_sum : List PySem.Str := [PySem.Str.ofString "told", PySem.Str.ofString "many"]
def cd_is_sum (cf : CF) : MS :=
    (mSeq (mIfS (mOrT (mTest (mOp neF (mB lenF (mCons (mVar 0) mNil)) (mK (.int 3)))) (mNotT (mTest (mCall cf "is_integer" [false] (mCons (mOp ixF (mVar 0) (mK (.int 2))) mNil))))) (mRet (mK (.bool false))) mPass)
    (mRet (mAndV (mIsi .tuple (mOp ixF (mVar 0) (mK (.int 1)))) (mAndV (mOp eqF (mB lenF (mCons (mOp ixF (mVar 0) (mK (.int 1))) mNil)) (mK (.int 3))) (mB allF (mCons (mLc (sVal (mOp ixF (mVar 0) (mK (.int 1)))) (bName 1) cYes (mCall cf "is_integer" [false] (mCons (mVar 1) mNil)) [1]) mNil))))))
def fn_is_sum : Fn := { ps := ["told"], n := 2, body := cd_is_sum, kws := [] }
def N_is_atom_formed : List PySem.Str := [PySem.Str.ofString "told"]
def cd_is_atom_formed (cf : CF) : MS :=
    (mSeq (mIfS (mTest (mOp inF (mOp ixF (mVar 0) (mK (.int 0))) (mK K_SUMS))) (mRet (mCall cf "is_sum" [false] (mCons (mVar 0) mNil))) mPass)
    (mSeq (mIfS (mOrT (mTest (mOp ltF (mB lenF (mCons (mVar 0) mNil)) (mK (.int 2)))) (mNotT (mTest (mCall cf "is_below" [false, false] (mCons (mOp ixF (mVar 0) (mK (.int 1))) (mCons (mK (.int 3)) mNil)))))) (mRet (mK (.bool false))) mPass)
    (mSeq (mIfS (mTest (mOp eqF (mOp ixF (mVar 0) (mK (.int 0))) (mK (.str "rest")))) (mRet (mAndV (mOp eqF (mB lenF (mCons (mVar 0) mNil)) (mK (.int 4))) (mAndV (mCall cf "is_integer" [false] (mCons (mOp ixF (mVar 0) (mK (.int 2))) mNil)) (mAndV (mOp geF (mOp ixF (mVar 0) (mK (.int 2))) (mK (.int 2))) (mCall cf "is_below" [false, false] (mCons (mOp ixF (mVar 0) (mK (.int 3))) (mCons (mOp ixF (mVar 0) (mK (.int 2))) mNil))))))) mPass)
    (mRet (mAndV (mOp eqF (mOp ixF (mVar 0) (mK (.int 0))) (mK (.str "whole"))) (mOp eqF (mB lenF (mCons (mVar 0) mNil)) (mK (.int 2))))))))
def fn_is_atom_formed : Fn := { ps := ["told"], n := 1, body := cd_is_atom_formed, kws := [] }
def N_inner_of : List PySem.Str := [PySem.Str.ofString "told"]
def cd_inner_of (cf : CF) : MS :=
    (mSeq (mIfS (mOrT (mNotT (mTest (mIsi .tuple (mVar 0)))) (mOrT (mTest (mOp eqF (mB lenF (mCons (mVar 0) mNil)) (mK (.int 0)))) (mNotT (mTest (mIsi .str (mOp ixF (mVar 0) (mK (.int 0)))))))) (mRet (mK .none)) mPass)
    (mSeq (mIfS (mTest (mUn (cinF K_JOINED) (mOp ixF (mVar 0) (mK (.int 0))))) (mRet (mIf (mTest (mOp eqF (mB lenF (mCons (mVar 0) mNil)) (mOp addF (mUn (cgetF K_JOINED) (mOp ixF (mVar 0) (mK (.int 0)))) (mK (.int 1))))) (mSl (mVar 0) (mPo (some (mK (.int 1)))) (mPo none)) (mK .none))) mPass)
    (mSeq (mIfS (mTest (mOp inF (mOp ixF (mVar 0) (mK (.int 0))) (mK K_TRIED))) (mRet (mIf (mAndT (mTest (mOp eqF (mB lenF (mCons (mVar 0) mNil)) (mK (.int 3)))) (mTest (mCall cf "is_below" [false, false] (mCons (mOp ixF (mVar 0) (mK (.int 1))) (mCons (mK (.int 3)) mNil))))) (mSl (mVar 0) (mPo (some (mK (.int 2)))) (mPo none)) (mK .none))) mPass)
    (mRet (mIf (mTest (mCall cf "is_atom_formed" [false] (mCons (mVar 0) mNil))) (mTup mNil) (mK .none))))))
def fn_inner_of : Fn := { ps := ["told"], n := 1, body := cd_inner_of, kws := [] }
def N_is_saying : List PySem.Str := [PySem.Str.ofString "value", PySem.Str.ofString "waiting", PySem.Str.ofString "inner"]
def cd_is_saying (cf : CF) : MS :=
    (mSeq (mSet 1 (mLst (mCons (mVar 0) mNil)))
    (mSeq (mWhile (mTest (mOp gtF (mB lenF (mCons (mVar 1) mNil)) (mK (.int 0)))) (mSeq (mSet 2 (mCall cf "inner_of" [false] (mCons (mMeth 1 "list" popF mNil) mNil)))
    (mSeq (mIfS (mTest (mOp isF (mVar 2) (mK .none))) (mRet (mK (.bool false))) mPass)
    (mDrop (mMeth 1 "list" extF (mCons (mVar 2) mNil))))))
    (mRet (mK (.bool true)))))
def fn_is_saying : Fn := { ps := ["value"], n := 3, body := cd_is_saying, kws := [] }
def N_check_saying : List PySem.Str := [PySem.Str.ofString "saying"]
def cd_check_saying (cf : CF) : MS :=
    (mIfS (mNotT (mTest (mCall cf "is_saying" [false] (mCons (mVar 0) mNil)))) (fun _ => .no) mPass)
def fn_check_saying : Fn := { ps := ["saying"], n := 1, body := cd_check_saying, kws := [] }
def N_inner_parts : List PySem.Str := [PySem.Str.ofString "saying"]
def cd_inner_parts (cf : CF) : MS :=
    (mSeq (mIfS (mTest (mUn (cinF K_JOINED) (mOp ixF (mVar 0) (mK (.int 0))))) (mRet (mSl (mVar 0) (mPo (some (mK (.int 1)))) (mPo none))) mPass)
    (mRet (mIf (mTest (mOp inF (mOp ixF (mVar 0) (mK (.int 0))) (mK K_TRIED))) (mSl (mVar 0) (mPo (some (mK (.int 2)))) (mPo none)) (mTup mNil))))
def fn_inner_parts : Fn := { ps := ["saying"], n := 1, body := cd_inner_parts, kws := [] }
def N_is_atom : List PySem.Str := [PySem.Str.ofString "saying"]
def cd_is_atom (cf : CF) : MS :=
    (mRet (mAndV (mUn (cninF K_JOINED) (mOp ixF (mVar 0) (mK (.int 0)))) (mOp ninF (mOp ixF (mVar 0) (mK (.int 0))) (mK K_TRIED))))
def fn_is_atom : Fn := { ps := ["saying"], n := 1, body := cd_is_atom, kws := [] }
def N_variables_of : List PySem.Str := [PySem.Str.ofString "atom", PySem.Str.ofString "i"]
def cd_variables_of (cf : CF) : MS :=
    (mSeq (mIfS (mTest (mOp inF (mOp ixF (mVar 0) (mK (.int 0))) (mK K_SUMS))) (mRet (mB tupleF (mCons (mLc (sRng1 (mCons (mK (.int 3)) mNil)) (bName 1) (mTest (mOp neF (mOp ixF (mOp ixF (mVar 0) (mK (.int 1))) (mVar 1)) (mK (.int 0)))) (mVar 1) [1]) mNil))) mPass)
    (mRet (mSl (mVar 0) (mPo (some (mK (.int 1)))) (mPo (some (mK (.int 2)))))))
def fn_variables_of : Fn := { ps := ["atom"], n := 2, body := cd_variables_of, kws := [] }
def N_free_of : List PySem.Str := [PySem.Str.ofString "saying", PySem.Str.ofString "found", PySem.Str.ofString "part", PySem.Str.ofString "i"]
def cd_free_of (cf : CF) : MS :=
    (mSeq (mIfS (mTest (mCall cf "is_atom" [false] (mCons (mVar 0) mNil))) (mRet (mCall cf "variables_of" [false] (mCons (mVar 0) mNil))) mPass)
    (mSeq (mSet 1 (mLc2 (sVal (mCall cf "inner_parts" [false] (mCons (mVar 0) mNil))) (bName 2) cYes (sVal (mCall cf "free_of" [false] (mCons (mVar 2) mNil))) (bName 3) cYes (leafD (mVar 3) (mK (.bool true))) [2, 3] [3] (.dct [])))
    (mSeq (mIfS (mTest (mOp inF (mOp ixF (mVar 0) (mK (.int 0))) (mK K_TRIED))) (mDrop (mMeth 1 "dict" popKF (mCons (mOp ixF (mVar 0) (mK (.int 1))) (mCons (mK .none) mNil)))) mPass)
    (mRet (mB tupleF (mCons (mB sortedAF (mCons (mVar 1) mNil)) mNil))))))
def fn_free_of : Fn := { ps := ["saying"], n := 4, body := cd_free_of, kws := [] }
def N_parts_of : List PySem.Str := [PySem.Str.ofString "saying", PySem.Str.ofString "found", PySem.Str.ofString "part", PySem.Str.ofString "own"]
def cd_parts_of (cf : CF) : MS :=
    (mSeq (mSet 1 (mLc2 (sVal (mCall cf "inner_parts" [false] (mCons (mVar 0) mNil))) (bName 2) cYes (sVal (mCall cf "parts_of" [false] (mCons (mVar 2) mNil))) (bName 3) cYes (leafL (mVar 3)) [2, 3] [3] (.lst [])))
    (mRet (mOp addF (mB tupleF (mCons (mVar 1) mNil)) (mTup (mCons (mVar 0) mNil)))))
def fn_parts_of : Fn := { ps := ["saying"], n := 4, body := cd_parts_of, kws := [] }
def N_is_plain : List PySem.Str := [PySem.Str.ofString "saying", PySem.Str.ofString "part"]
def cd_is_plain (cf : CF) : MS :=
    (mRet (mB allF (mCons (mLc (sVal (mCall cf "parts_of" [false] (mCons (mVar 0) mNil))) (bName 1) cYes (mOp ninF (mOp ixF (mVar 1) (mK (.int 0))) (mK K_TRIED)) [1]) mNil)))
def fn_is_plain : Fn := { ps := ["saying"], n := 2, body := cd_is_plain, kws := [] }
def N_sum_left : List PySem.Str := [PySem.Str.ofString "many", PySem.Str.ofString "limit", PySem.Str.ofString "given", PySem.Str.ofString "whole", PySem.Str.ofString "i", PySem.Str.ofString "x", PySem.Str.ofString "total"]
def cd_sum_left (cf : CF) : MS :=
    (mSeq (mSet 3 (mK (.int 1)))
    (mSeq (mForI 2 (bTup 2 (bCons (bName 4) (bCons (bName 5) bNil))) (mSet 3 (mOp mulF (mVar 3) (mIf (mTest (mOp neF (mOp ixF (mVar 0) (mVar 4)) (mK (.int 0)))) (mOp ixF (mVar 5) (mK (.int 1))) (mK (.int 1))))))
    (mSeq (mSet 6 (mOp mulF (mUn negF (mVar 1)) (mVar 3)))
    (mSeq (mForI 2 (bTup 2 (bCons (bName 4) (bCons (bName 5) bNil))) (mIfS (mTest (mOp neF (mOp ixF (mVar 0) (mVar 4)) (mK (.int 0)))) (mSet 6 (mOp addF (mVar 6) (mOp mulF (mOp mulF (mOp ixF (mVar 0) (mVar 4)) (mOp ixF (mVar 5) (mK (.int 0)))) (mOp fdivF (mVar 3) (mOp ixF (mVar 5) (mK (.int 1))))))) mPass))
    (mRet (mVar 6))))))
def fn_sum_left : Fn := { ps := ["many", "limit", "given"], n := 7, body := cd_sum_left, kws := [] }
def N_is_atom_true : List PySem.Str := [PySem.Str.ofString "atom", PySem.Str.ofString "given", PySem.Str.ofString "left", PySem.Str.ofString "x"]
def cd_is_atom_true (cf : CF) : MS :=
    (mSeq (mIfS (mTest (mOp inF (mOp ixF (mVar 0) (mK (.int 0))) (mK K_SUMS))) (mSeq (mSet 2 (mCall cf "sum_left" [false, false, false] (mCons (mOp ixF (mVar 0) (mK (.int 1))) (mCons (mOp ixF (mVar 0) (mK (.int 2))) (mCons (mVar 1) mNil)))))
    (mSeq (mIfS (mTest (mOp eqF (mOp ixF (mVar 0) (mK (.int 0))) (mK (.str "less")))) (mRet (mOp ltF (mVar 2) (mK (.int 0)))) mPass)
    (mRet (mIf (mTest (mOp eqF (mOp ixF (mVar 0) (mK (.int 0))) (mK (.str "most")))) (mOp leF (mVar 2) (mK (.int 0))) (mOp eqF (mVar 2) (mK (.int 0))))))) mPass)
    (mSeq (mSet 3 (mOp dgetF (mVar 1) (mOp ixF (mVar 0) (mK (.int 1)))))
    (mRet (mAndV (mOp eqF (mOp ixF (mVar 3) (mK (.int 1))) (mK (.int 1))) (mOrV (mOp eqF (mOp ixF (mVar 0) (mK (.int 0))) (mK (.str "whole"))) (mOp eqF (mOp modF (mOp ixF (mVar 3) (mK (.int 0))) (mOp ixF (mVar 0) (mK (.int 2)))) (mOp ixF (mVar 0) (mK (.int 3)))))))))
def fn_is_atom_true : Fn := { ps := ["atom", "given"], n := 4, body := cd_is_atom_true, kws := [] }
def N_is_true_at : List PySem.Str := [PySem.Str.ofString "saying", PySem.Str.ofString "given", PySem.Str.ofString "told", PySem.Str.ofString "part"]
def cd_is_true_at (cf : CF) : MS :=
    (mSeq (mIfS (mTest (mCall cf "is_atom" [false] (mCons (mVar 0) mNil))) (mRet (mCall cf "is_atom_true" [false, false] (mCons (mVar 0) (mCons (mVar 1) mNil)))) mPass)
    (mSeq (mSet 2 (mLc (sVal (mCall cf "inner_parts" [false] (mCons (mVar 0) mNil))) (bName 3) cYes (mCall cf "is_true_at" [false, false] (mCons (mVar 3) (mCons (mVar 1) mNil))) [3]))
    (mSeq (mIfS (mTest (mOp eqF (mOp ixF (mVar 0) (mK (.int 0))) (mK (.str "not")))) (mRet (mNotV (mOp ixF (mVar 2) (mK (.int 0))))) mPass)
    (mRet (mIf (mTest (mOp eqF (mOp ixF (mVar 0) (mK (.int 0))) (mK (.str "both")))) (mB allF (mCons (mVar 2) mNil)) (mB anyF (mCons (mVar 2) mNil)))))))
def fn_is_true_at : Fn := { ps := ["saying", "given"], n := 4, body := cd_is_true_at, kws := [] }
def N_check_numbers : List PySem.Str := [PySem.Str.ofString "saying", PySem.Str.ofString "numbers", PySem.Str.ofString "x"]
def cd_check_numbers (cf : CF) : MS :=
    (mSeq (mIfS (mOrT (mNotT (mTest (mIsi .tuple (mVar 1)))) (mTest (mOp neF (mB lenF (mCons (mVar 1) mNil)) (mB lenF (mCons (mCall cf "free_of" [false] (mCons (mVar 0) mNil)) mNil))))) (fun _ => .no) mPass)
    (mIfS (mNotT (mTest (mB allF (mCons (mLc (sVal (mVar 1)) (bName 2) cYes (mCall cf "is_fraction" [false] (mCons (mVar 2) mNil)) [2]) mNil)))) (fun _ => .no) mPass))
def fn_check_numbers : Fn := { ps := ["saying", "numbers"], n := 3, body := cd_check_numbers, kws := [] }
def N_true_at : List PySem.Str := [PySem.Str.ofString "saying", PySem.Str.ofString "numbers"]
def cd_true_at (cf : CF) : MS :=
    (mSeq (mDrop (mCall cf "check_saying" [false] (mCons (mVar 0) mNil)))
    (mSeq (mIfS (mNotT (mTest (mCall cf "is_plain" [false] (mCons (mVar 0) mNil)))) (fun _ => .no) mPass)
    (mSeq (mDrop (mCall cf "check_numbers" [false, false] (mCons (mVar 0) (mCons (mVar 1) mNil))))
    (mRet (mCall cf "is_true_at" [false, false] (mCons (mVar 0) (mCons (mDZip (mCons (mCall cf "free_of" [false] (mCons (mVar 0) mNil)) (mCons (mVar 1) mNil))) mNil)))))))
def fn_true_at : Fn := { ps := ["saying", "numbers"], n := 2, body := cd_true_at, kws := [(["numbers", "saying"], [1, 0])] }
def N__law_begin : List PySem.Str := [PySem.Str.ofString "script", PySem.Str.ofString "place", PySem.Str.ofString "seed", PySem.Str.ofString "cell"]
def cd__law_begin (cf : CF) : MS :=
    (mSeq (mSet 2 (mOp addF (mOp addF (mK (.int 1013904223)) (mOp mulF (mK (.int 69069)) (mVar 1))) (mB lenF (mCons (mVar 0) mNil))))
    (mSeq (mFor (sVal (mSl (mVar 0) (mPo none) (mPo (some (mK (.int 200)))))) (bName 3) (mSet 2 (mOp modF (mB intF (mCons (mOp addF (mOp addF (mOp mulF (mVar 2) (mK (.int 6364136223846793005))) (mOp mulF (mVar 3) (mK (.int 2862933555777941757)))) (mK (.int 3037000493))) mNil)) (mK (.int 618970019642690137449562111)))))
    (mSeq (mSet 3 (mIf (mTest (mOp ltF (mVar 1) (mB lenF (mCons (mVar 0) mNil)))) (mB intF (mCons (mOp ixF (mVar 0) (mVar 1)) mNil)) (mK (.int 0))))
    (mRet (mLst (mCons (mB max2F (mCons (mK (.int 0)) (mCons (mOp subF (mB absF (mCons (mVar 3) mNil)) (mOp powXF (mK (.int 10)) (mK (.int 18)))) mNil))) (mCons (mVar 2) (mCons (mK (.int 0)) mNil))))))))
def fn__law_begin : Fn := { ps := ["script", "place"], n := 4, body := cd__law_begin, kws := [] }
def N__law_tens : List PySem.Str := [PySem.Str.ofString "many", PySem.Str.ofString "found", PySem.Str.ofString "turn"]
def cd__law_tens (cf : CF) : MS :=
    (mSeq (mSet 1 (mK (.int 1)))
    (mSeq (mFor (sRng1 (mCons (mVar 0) mNil)) (bName 2) (mSet 1 (mOp mulF (mVar 1) (mK (.int 10)))))
    (mRet (mVar 1))))
def fn__law_tens : Fn := { ps := ["many"], n := 3, body := cd__law_tens, kws := [] }
def N__law_pick : List PySem.Str := [PySem.Str.ofString "source", PySem.Str.ofString "many", PySem.Str.ofString "found", PySem.Str.ofString "mixed"]
def cd__law_pick (cf : CF) : MS :=
    (mSeq (mIfS (mTest (mOp gtF (mOp ixF (mVar 0) (mK (.int 0))) (mK (.int 0)))) (mSeq (mSet 2 (mOp modF (mB intF (mCons (mOp ixF (mVar 0) (mK (.int 0))) mNil)) (mVar 1)))
    (mSeq (mStore 0 "list" (mK (.int 0)) (mOp fdivF (mOp ixF (mVar 0) (mK (.int 0))) (mVar 1)) setLF)
    (mRet (mVar 2)))) mPass)
    (mSeq (mStore 0 "list" (mK (.int 2)) (mOp addF (mOp ixF (mVar 0) (mK (.int 2))) (mK (.int 1))) setLF)
    (mSeq (mSet 3 (mOp modF (mB intF (mCons (mOp addF (mOp powXF (mOp addF (mOp ixF (mVar 0) (mK (.int 1))) (mOp mulF (mK (.int 3935559000370003845)) (mOp ixF (mVar 0) (mK (.int 2))))) (mK (.int 3))) (mOp ixF (mVar 0) (mK (.int 2)))) mNil)) (mK (.int 618970019642690137449562111))))
    (mSeq (mSet 3 (mOp modF (mB intF (mCons (mOp addF (mOp addF (mOp powXF (mVar 3) (mK (.int 3))) (mOp ixF (mVar 0) (mK (.int 1)))) (mK (.int 2691343689449507681))) mNil)) (mK (.int 162259276829213363391578010288127))))
    (mRet (mOp modF (mB intF (mCons (mOp fdivF (mVar 3) (mK (.int 1000003))) mNil)) (mVar 1)))))))
def fn__law_pick : Fn := { ps := ["source", "many"], n := 4, body := cd__law_pick, kws := [] }
def N__law_same : List PySem.Str := [PySem.Str.ofString "told", PySem.Str.ofString "due", PySem.Str.ofString "k"]
def cd__law_same (cf : CF) : MS :=
    (mSeq (mIfS (mTest (mOp isF (mVar 1) (mK .none))) (mRet (mOp isF (mVar 0) (mK .none))) mPass)
    (mSeq (mIfS (mTest (mIsi .bool (mVar 1))) (mRet (mAndV (mIsi .bool (mVar 0)) (mOp eqF (mVar 0) (mVar 1)))) mPass)
    (mSeq (mIfS (mTest (mIsi .int (mVar 1))) (mRet (mAndV (mIsi .int (mVar 0)) (mAndV (mNotV (mIsi .bool (mVar 0))) (mOp eqF (mVar 0) (mVar 1))))) mPass)
    (mSeq (mIfS (mTest (mIsi .str (mVar 1))) (mRet (mAndV (mIsi .str (mVar 0)) (mOp eqF (mVar 0) (mVar 1)))) mPass)
    (mSeq (mIfS (mOrT (mTest (mOp neF (mIsi .tuple (mVar 1)) (mIsi .tuple (mVar 0)))) (mTest (mOp neF (mIsi .list (mVar 1)) (mIsi .list (mVar 0))))) (mRet (mK (.bool false))) mPass)
    (mRet (mAndV (mOp eqF (mB lenF (mCons (mVar 0) mNil)) (mB lenF (mCons (mVar 1) mNil))) (mB allF (mCons (mLc (sRng1 (mCons (mB lenF (mCons (mVar 1) mNil)) mNil)) (bName 2) cYes (mCall cf "_law_same" [false, false] (mCons (mOp ixF (mVar 0) (mVar 2)) (mCons (mOp ixF (mVar 1) (mVar 2)) mNil))) [2]) mNil)))))))))
def fn__law_same : Fn := { ps := ["told", "due"], n := 3, body := cd__law_same, kws := [] }
def N__law_frac : List PySem.Str := [PySem.Str.ofString "top", PySem.Str.ofString "bottom", PySem.Str.ofString "one", PySem.Str.ofString "other", PySem.Str.ofString "sign"]
def cd__law_frac (cf : CF) : MS :=
    (mSeq (mPar [2, 3] (mCons (mB absF (mCons (mVar 0) mNil)) (mCons (mB absF (mCons (mVar 1) mNil)) mNil)))
    (mSeq (mWhile (mTest (mOp gtF (mVar 3) (mK (.int 0)))) (mPar [2, 3] (mCons (mVar 3) (mCons (mOp modF (mB intF (mCons (mVar 2) mNil)) (mVar 3)) mNil))))
    (mSeq (mSet 4 (mIf (mTest (mOp ltF (mVar 1) (mK (.int 0)))) (mUn negF (mK (.int 1))) (mK (.int 1))))
    (mRet (mTup (mCons (mOp fdivF (mOp mulF (mVar 4) (mVar 0)) (mVar 2)) (mCons (mOp fdivF (mOp mulF (mVar 4) (mVar 1)) (mVar 2)) mNil)))))))
def fn__law_frac : Fn := { ps := ["top", "bottom"], n := 5, body := cd__law_frac, kws := [] }
def N__law_sum : List PySem.Str := [PySem.Str.ofString "source", PySem.Str.ofString "size", PySem.Str.ofString "limit", PySem.Str.ofString "many", PySem.Str.ofString "at"]
def cd__law_sum (cf : CF) : MS :=
    (mSeq (mSet 3 (mB tupleF (mCons (mLc (sRng1 (mCons (mK (.int 3)) mNil)) (bName 4) cYes (mOp mulF (mOp subF (mCall cf "_law_pick" [true, false] (mCons (mVar 0) (mCons (mOp addF (mOp mulF (mK (.int 2)) (mVar 1)) (mK (.int 1))) mNil))) (mVar 1)) (mB min2F (mCons (mK (.int 1)) (mCons (mCall cf "_law_pick" [true, false] (mCons (mVar 0) (mCons (mK (.int 3)) mNil))) mNil)))) [4]) mNil)))
    (mRet (mTup (mCons (mOp ixF (mLst (mCons (mK (.str "less")) (mCons (mK (.str "most")) (mCons (mK (.str "equal")) mNil)))) (mCall cf "_law_pick" [true, false] (mCons (mVar 0) (mCons (mK (.int 3)) mNil)))) (mCons (mVar 3) (mCons (mOp subF (mCall cf "_law_pick" [true, false] (mCons (mVar 0) (mCons (mOp addF (mOp mulF (mK (.int 2)) (mVar 2)) (mK (.int 1))) mNil))) (mVar 2)) mNil))))))
def fn__law_sum : Fn := { ps := ["source", "size", "limit"], n := 5, body := cd__law_sum, kws := [] }
def N__law_atom : List PySem.Str := [PySem.Str.ofString "source", PySem.Str.ofString "size", PySem.Str.ofString "limit", PySem.Str.ofString "way", PySem.Str.ofString "modulus", PySem.Str.ofString "some"]
def cd__law_atom (cf : CF) : MS :=
    (mSeq (mSet 3 (mCall cf "_law_pick" [true, false] (mCons (mVar 0) (mCons (mK (.int 5)) mNil))))
    (mSeq (mIfS (mTest (mOp ltF (mVar 3) (mK (.int 3)))) (mRet (mCall cf "_law_sum" [true, false, false] (mCons (mVar 0) (mCons (mVar 1) (mCons (mVar 2) mNil))))) mPass)
    (mSeq (mSet 4 (mOp addF (mK (.int 2)) (mCall cf "_law_pick" [true, false] (mCons (mVar 0) (mCons (mK (.int 5)) mNil)))))
    (mSeq (mSet 5 (mTup (mCons (mK (.str "rest")) (mCons (mCall cf "_law_pick" [true, false] (mCons (mVar 0) (mCons (mK (.int 3)) mNil))) (mCons (mVar 4) (mCons (mCall cf "_law_pick" [true, false] (mCons (mVar 0) (mCons (mVar 4) mNil))) mNil))))))
    (mRet (mIf (mTest (mOp eqF (mVar 3) (mK (.int 3)))) (mVar 5) (mTup (mCons (mK (.str "whole")) (mCons (mCall cf "_law_pick" [true, false] (mCons (mVar 0) (mCons (mK (.int 3)) mNil))) mNil)))))))))
def fn__law_atom : Fn := { ps := ["source", "size", "limit"], n := 6, body := cd__law_atom, kws := [] }
def N__law_saying : List PySem.Str := [PySem.Str.ofString "source", PySem.Str.ofString "count", PySem.Str.ofString "tries", PySem.Str.ofString "size", PySem.Str.ofString "limit", PySem.Str.ofString "way", PySem.Str.ofString "ahead", PySem.Str.ofString "one", PySem.Str.ofString "other", PySem.Str.ofString "word", PySem.Str.ofString "i"]
def cd__law_saying (cf : CF) : MS :=
    (mSeq (mIfS (mTest (mOp eqF (mVar 1) (mK (.int 1)))) (mRet (mCall cf "_law_atom" [true, false, false] (mCons (mVar 0) (mCons (mVar 3) (mCons (mVar 4) mNil))))) mPass)
    (mSeq (mSet 5 (mCall cf "_law_pick" [true, false] (mCons (mVar 0) (mCons (mK (.int 6)) mNil))))
    (mSeq (mIfS (mAndT (mTest (mOp ltF (mVar 5) (mK (.int 3)))) (mTest (mOp gtF (mVar 1) (mK (.int 2))))) (mSeq (mSet 6 (mOp addF (mK (.int 1)) (mCall cf "_law_pick" [true, false] (mCons (mVar 0) (mCons (mOp subF (mVar 1) (mK (.int 2))) mNil)))))
    (mSeq (mSet 7 (mCall cf "_law_saying" [true, false, false, false, false] (mCons (mVar 0) (mCons (mVar 6) (mCons (mVar 2) (mCons (mVar 3) (mCons (mVar 4) mNil)))))))
    (mSeq (mSet 8 (mCall cf "_law_saying" [true, false, false, false, false] (mCons (mVar 0) (mCons (mOp subF (mOp subF (mVar 1) (mK (.int 1))) (mVar 6)) (mCons (mVar 2) (mCons (mVar 3) (mCons (mVar 4) mNil)))))))
    (mRet (mTup (mCons (mOp ixF (mLst (mCons (mK (.str "both")) (mCons (mK (.str "either")) mNil))) (mCall cf "_law_pick" [true, false] (mCons (mVar 0) (mCons (mK (.int 2)) mNil)))) (mCons (mVar 7) (mCons (mVar 8) mNil)))))))) mPass)
    (mSeq (mIfS (mAndT (mTest (mOp gtF (mVar 5) (mK (.int 3)))) (mTest (mOp gtF (mOp ixF (mVar 2) (mK (.int 0))) (mK (.int 0))))) (mSeq (fun _ => .no)
    (mSeq (mPar [9, 10] (mCons (mOp ixF (mLst (mCons (mK (.str "some")) (mCons (mK (.str "every")) mNil))) (mCall cf "_law_pick" [true, false] (mCons (mVar 0) (mCons (mK (.int 2)) mNil)))) (mCons (mCall cf "_law_pick" [true, false] (mCons (mVar 0) (mCons (mK (.int 3)) mNil))) mNil)))
    (mRet (mTup (mCons (mVar 9) (mCons (mVar 10) (mCons (mCall cf "_law_saying" [true, false, false, false, false] (mCons (mVar 0) (mCons (mOp subF (mVar 1) (mK (.int 1))) (mCons (mVar 2) (mCons (mVar 3) (mCons (mVar 4) mNil)))))) mNil))))))) mPass)
    (mRet (mTup (mCons (mK (.str "not")) (mCons (mCall cf "_law_saying" [true, false, false, false, false] (mCons (mVar 0) (mCons (mOp subF (mVar 1) (mK (.int 1))) (mCons (mVar 2) (mCons (mVar 3) (mCons (mVar 4) mNil)))))) mNil))))))))
def fn__law_saying : Fn := { ps := ["source", "count", "tries", "size", "limit"], n := 11, body := cd__law_saying, kws := [] }
def N__law_inner : List PySem.Str := [PySem.Str.ofString "saying"]
def cd__law_inner (cf : CF) : MS :=
    (mSeq (mIfS (mTest (mOp inF (mOp ixF (mVar 0) (mK (.int 0))) (mTup (mCons (mK (.str "not")) (mCons (mK (.str "both")) (mCons (mK (.str "either")) mNil)))))) (mRet (mB listF (mCons (mSl (mVar 0) (mPo (some (mK (.int 1)))) (mPo none)) mNil))) mPass)
    (mRet (mIf (mTest (mOp inF (mOp ixF (mVar 0) (mK (.int 0))) (mTup (mCons (mK (.str "some")) (mCons (mK (.str "every")) mNil))))) (mLst (mCons (mOp ixF (mVar 0) (mK (.int 2))) mNil)) (mLst mNil))))
def fn__law_inner : Fn := { ps := ["saying"], n := 1, body := cd__law_inner, kws := [] }
def N__law_free : List PySem.Str := [PySem.Str.ofString "saying", PySem.Str.ofString "word", PySem.Str.ofString "found", PySem.Str.ofString "part", PySem.Str.ofString "bound", PySem.Str.ofString "i"]
def cd__law_free (cf : CF) : MS :=
    (mSeq (mSet 1 (mOp ixF (mVar 0) (mK (.int 0))))
    (mSeq (mIfS (mTest (mOp inF (mVar 1) (mTup (mCons (mK (.str "less")) (mCons (mK (.str "most")) (mCons (mK (.str "equal")) mNil)))))) (mRet (mB tupleF (mCons (mLc (sRng1 (mCons (mK (.int 3)) mNil)) (bName 5) (mTest (mOp neF (mOp ixF (mOp ixF (mVar 0) (mK (.int 1))) (mVar 5)) (mK (.int 0)))) (mVar 5) [5]) mNil))) mPass)
    (mSeq (mIfS (mTest (mOp inF (mVar 1) (mTup (mCons (mK (.str "whole")) (mCons (mK (.str "rest")) mNil))))) (mRet (mTup (mCons (mOp ixF (mVar 0) (mK (.int 1))) mNil))) mPass)
    (mSeq (mSet 2 (mLst mNil))
    (mSeq (mFor (sVal (mCall cf "_law_inner" [false] (mCons (mVar 0) mNil))) (bName 3) (mSet 2 (mOp addF (mVar 2) (mB listF (mCons (mCall cf "_law_free" [false] (mCons (mVar 3) mNil)) mNil)))))
    (mSeq (mSet 4 (mIf (mTest (mOp inF (mVar 1) (mTup (mCons (mK (.str "some")) (mCons (mK (.str "every")) mNil))))) (mOp ixF (mVar 0) (mK (.int 1))) (mUn negF (mK (.int 1)))))
    (mRet (mB tupleF (mCons (mLc (sRng1 (mCons (mK (.int 3)) mNil)) (bName 5) (mAndT (mTest (mOp inF (mVar 5) (mVar 2))) (mTest (mOp neF (mVar 5) (mVar 4)))) (mVar 5) [5]) mNil)))))))))
def fn__law_free : Fn := { ps := ["saying"], n := 6, body := cd__law_free, kws := [] }
def N__law_holds : List PySem.Str := [PySem.Str.ofString "saying", PySem.Str.ofString "given", PySem.Str.ofString "word", PySem.Str.ofString "told", PySem.Str.ofString "x", PySem.Str.ofString "top", PySem.Str.ofString "bottom", PySem.Str.ofString "at", PySem.Str.ofString "one", PySem.Str.ofString "part"]
def cd__law_holds (cf : CF) : MS :=
    (mSeq (mSet 2 (mOp ixF (mVar 0) (mK (.int 0))))
    (mSeq (mIfS (mTest (mOp inF (mVar 2) (mTup (mCons (mK (.str "not")) (mCons (mK (.str "both")) (mCons (mK (.str "either")) mNil)))))) (mSeq (mSet 3 (mLc (sVal (mSl (mVar 0) (mPo (some (mK (.int 1)))) (mPo none))) (bName 9) cYes (mCall cf "_law_holds" [false, false] (mCons (mVar 9) (mCons (mVar 1) mNil))) [9]))
    (mSeq (mIfS (mTest (mOp eqF (mVar 2) (mK (.str "not")))) (mRet (mNotV (mOp ixF (mVar 3) (mK (.int 0))))) mPass)
    (mRet (mIf (mTest (mOp eqF (mVar 2) (mK (.str "both")))) (mAndV (mOp ixF (mVar 3) (mK (.int 0))) (mOp ixF (mVar 3) (mK (.int 1)))) (mOrV (mOp ixF (mVar 3) (mK (.int 0))) (mOp ixF (mVar 3) (mK (.int 1)))))))) mPass)
    (mSeq (mIfS (mTest (mOp inF (mVar 2) (mTup (mCons (mK (.str "whole")) (mCons (mK (.str "rest")) mNil))))) (mSeq (mSet 4 (mOp ixF (mVar 1) (mOp ixF (mVar 0) (mK (.int 1)))))
    (mRet (mAndV (mOp eqF (mOp ixF (mVar 4) (mK (.int 1))) (mK (.int 1))) (mOrV (mOp eqF (mVar 2) (mK (.str "whole"))) (mOp eqF (mOp modF (mB intF (mCons (mOp ixF (mVar 4) (mK (.int 0))) mNil)) (mOp ixF (mVar 0) (mK (.int 2)))) (mOp ixF (mVar 0) (mK (.int 3)))))))) mPass)
    (mSeq (mPar [5, 6] (mCons (mUn negF (mOp ixF (mVar 0) (mK (.int 2)))) (mCons (mK (.int 1)) mNil)))
    (mSeq (mFor (sRng1 (mCons (mK (.int 3)) mNil)) (bName 7) (mIfS (mTest (mOp neF (mOp ixF (mOp ixF (mVar 0) (mK (.int 1))) (mVar 7)) (mK (.int 0)))) (mSeq (mSet 8 (mOp ixF (mVar 1) (mVar 7)))
    (mPar [5, 6] (mCons (mOp addF (mOp mulF (mVar 5) (mOp ixF (mVar 8) (mK (.int 1)))) (mOp mulF (mOp mulF (mOp ixF (mOp ixF (mVar 0) (mK (.int 1))) (mVar 7)) (mOp ixF (mVar 8) (mK (.int 0)))) (mVar 6))) (mCons (mOp mulF (mVar 6) (mOp ixF (mVar 8) (mK (.int 1)))) mNil)))) mPass))
    (mSeq (mIfS (mTest (mOp eqF (mVar 2) (mK (.str "equal")))) (mRet (mOp eqF (mVar 5) (mK (.int 0)))) mPass)
    (mRet (mOrV (mOp ltF (mVar 5) (mK (.int 0))) (mAndV (mOp eqF (mVar 2) (mK (.str "most"))) (mOp eqF (mVar 5) (mK (.int 0))))))))))))
def fn__law_holds : Fn := { ps := ["saying", "given"], n := 10, body := cd__law_holds, kws := [] }
def N__law_number : List PySem.Str := [PySem.Str.ofString "source", PySem.Str.ofString "way"]
def cd__law_number (cf : CF) : MS :=
    (mSeq (mSet 1 (mCall cf "_law_pick" [true, false] (mCons (mVar 0) (mCons (mK (.int 8)) mNil))))
    (mSeq (mIfS (mTest (mOp ltF (mVar 1) (mK (.int 2)))) (mRet (mTup (mCons (mOp subF (mCall cf "_law_pick" [true, false] (mCons (mVar 0) (mCons (mK (.int 41)) mNil))) (mK (.int 20))) (mCons (mK (.int 1)) mNil)))) mPass)
    (mSeq (mIfS (mTest (mOp ltF (mVar 1) (mK (.int 6)))) (mRet (mCall cf "_law_frac" [false, false] (mCons (mOp subF (mCall cf "_law_pick" [true, false] (mCons (mVar 0) (mCons (mK (.int 121)) mNil))) (mK (.int 60))) (mCons (mOp addF (mK (.int 1)) (mCall cf "_law_pick" [true, false] (mCons (mVar 0) (mCons (mK (.int 12)) mNil)))) mNil)))) mPass)
    (mSeq (mIfS (mTest (mOp eqF (mVar 1) (mK (.int 6)))) (mRet (mCall cf "_law_frac" [false, false] (mCons (mOp subF (mCall cf "_law_pick" [true, false] (mCons (mVar 0) (mCons (mOp addF (mOp mulF (mK (.int 2)) (mOp powXF (mK (.int 10)) (mK (.int 6)))) (mK (.int 1))) mNil))) (mOp powXF (mK (.int 10)) (mK (.int 6)))) (mCons (mOp addF (mK (.int 1)) (mCall cf "_law_pick" [true, false] (mCons (mVar 0) (mCons (mK (.int 1000)) mNil)))) mNil)))) mPass)
    (mRet (mCall cf "_law_frac" [false, false] (mCons (mOp subF (mCall cf "_law_pick" [true, false] (mCons (mVar 0) (mCons (mOp addF (mOp mulF (mK (.int 2)) (mOp powXF (mK (.int 10)) (mK (.int 29)))) (mK (.int 1))) mNil))) (mOp powXF (mK (.int 10)) (mK (.int 29)))) (mCons (mOp addF (mK (.int 1)) (mCall cf "_law_pick" [true, false] (mCons (mVar 0) (mCons (mOp powXF (mK (.int 10)) (mK (.int 29))) mNil)))) mNil))))))))
def fn__law_number : Fn := { ps := ["source"], n := 2, body := cd__law_number, kws := [] }
def N__law_sums : List PySem.Str := [PySem.Str.ofString "saying", PySem.Str.ofString "found", PySem.Str.ofString "part"]
def cd__law_sums (cf : CF) : MS :=
    (mSeq (mIfS (mTest (mOp inF (mOp ixF (mVar 0) (mK (.int 0))) (mTup (mCons (mK (.str "less")) (mCons (mK (.str "most")) (mCons (mK (.str "equal")) mNil)))))) (mRet (mIf (mTest (mOp neF (mCall cf "_law_free" [false] (mCons (mVar 0) mNil)) (mTup mNil))) (mLst (mCons (mVar 0) mNil)) (mLst mNil))) mPass)
    (mSeq (mSet 1 (mLst mNil))
    (mSeq (mFor (sVal (mCall cf "_law_inner" [false] (mCons (mVar 0) mNil))) (bName 2) (mSet 1 (mOp addF (mVar 1) (mCall cf "_law_sums" [false] (mCons (mVar 2) mNil)))))
    (mRet (mVar 1)))))
def fn__law_sums : Fn := { ps := ["saying"], n := 3, body := cd__law_sums, kws := [] }
def N__law_small : List PySem.Str := [PySem.Str.ofString "source"]
def cd__law_small (cf : CF) : MS :=
    (mRet (mCall cf "_law_frac" [false, false] (mCons (mOp subF (mCall cf "_law_pick" [true, false] (mCons (mVar 0) (mCons (mK (.int 2001)) mNil))) (mK (.int 1000))) (mCons (mOp addF (mK (.int 1)) (mCall cf "_law_pick" [true, false] (mCons (mVar 0) (mCons (mK (.int 60)) mNil)))) mNil))))
def fn__law_small : Fn := { ps := ["source"], n := 1, body := cd__law_small, kws := [] }
def N__law_on_line : List PySem.Str := [PySem.Str.ofString "source", PySem.Str.ofString "atom", PySem.Str.ofString "given", PySem.Str.ofString "free", PySem.Str.ofString "i", PySem.Str.ofString "top", PySem.Str.ofString "bottom", PySem.Str.ofString "j", PySem.Str.ofString "way", PySem.Str.ofString "far"]
def cd__law_on_line (cf : CF) : MS :=
    (mSeq (mPar [2, 3] (mCons (mLc (sRng1 (mCons (mK (.int 3)) mNil)) (bName 4) cYes (mCall cf "_law_small" [true] (mCons (mVar 0) mNil)) [4]) (mCons (mCall cf "_law_free" [false] (mCons (mVar 1) mNil)) mNil)))
    (mSeq (mSet 4 (mOp ixF (mVar 3) (mCall cf "_law_pick" [true, false] (mCons (mVar 0) (mCons (mB lenF (mCons (mVar 3) mNil)) mNil)))))
    (mSeq (mPar [5, 6] (mCons (mOp ixF (mVar 1) (mK (.int 2))) (mCons (mK (.int 1)) mNil)))
    (mSeq (mFor (sVal (mVar 3)) (bName 7) (mIfS (mTest (mOp neF (mVar 7) (mVar 4))) (mSeq (mSet 5 (mOp subF (mOp mulF (mVar 5) (mOp ixF (mOp ixF (mVar 2) (mVar 7)) (mK (.int 1)))) (mOp mulF (mOp mulF (mOp ixF (mOp ixF (mVar 1) (mK (.int 1))) (mVar 7)) (mOp ixF (mOp ixF (mVar 2) (mVar 7)) (mK (.int 0)))) (mVar 6))))
    (mSet 6 (mOp mulF (mVar 6) (mOp ixF (mOp ixF (mVar 2) (mVar 7)) (mK (.int 1)))))) mPass))
    (mSeq (mPar [8, 9] (mCons (mOp subF (mCall cf "_law_pick" [true, false] (mCons (mVar 0) (mCons (mK (.int 3)) mNil))) (mK (.int 1))) (mCons (mCall cf "_law_tens" [false] (mCons (mOp addF (mK (.int 1)) (mCall cf "_law_pick" [true, false] (mCons (mVar 0) (mCons (mK (.int 6)) mNil)))) mNil)) mNil)))
    (mSeq (mStore 2 "list" (mVar 4) (mCall cf "_law_frac" [false, false] (mCons (mOp addF (mOp mulF (mVar 5) (mVar 9)) (mOp mulF (mOp mulF (mVar 8) (mVar 6)) (mOp ixF (mOp ixF (mVar 1) (mK (.int 1))) (mVar 4)))) (mCons (mOp mulF (mOp mulF (mVar 6) (mOp ixF (mOp ixF (mVar 1) (mK (.int 1))) (mVar 4))) (mVar 9)) mNil))) setLF)
    (mRet (mVar 2))))))))
def fn__law_on_line : Fn := { ps := ["source", "atom"], n := 10, body := cd__law_on_line, kws := [] }
def N_law : List PySem.Str := [PySem.Str.ofString "script", PySem.Str.ofString "place", PySem.Str.ofString "source", PySem.Str.ofString "turn", PySem.Str.ofString "saying", PySem.Str.ofString "free", PySem.Str.ofString "sums", PySem.Str.ofString "asked", PySem.Str.ofString "other", PySem.Str.ofString "step", PySem.Str.ofString "given", PySem.Str.ofString "numbers", PySem.Str.ofString "due", PySem.Str.ofString "pair", PySem.Str.ofString "both", PySem.Str.ofString "holds", PySem.Str.ofString "told", PySem.Str.ofString "i"]
def cd_law (cf : CF) : MS :=
    (mSeq (mFor (sRng1 (mCons (mB max2F (mCons (mK (.int 1)) (mCons (mB min2F (mCons (mK (.int 3)) (mCons (mB lenF (mCons (mVar 0) mNil)) mNil))) mNil))) mNil)) (bName 1) (mSeq (mSet 2 (mCall cf "_law_begin" [false, false] (mCons (mVar 0) (mCons (mVar 1) mNil))))
    (mFor (sRng1 (mCons (mK (.int 5)) mNil)) (bName 3) (mSeq (mSet 4 (mCall cf "_law_saying" [true, false, false, false, false] (mCons (mVar 2) (mCons (mOp addF (mK (.int 1)) (mCall cf "_law_pick" [true, false] (mCons (mVar 2) (mCons (mK (.int 7)) mNil)))) (mCons (mLst (mCons (mK (.int 0)) mNil)) (mCons (mOp ixF (mLst (mCons (mK (.int 1)) (mCons (mK (.int 3)) (mCons (mK (.int 20)) mNil)))) (mCall cf "_law_pick" [true, false] (mCons (mVar 2) (mCons (mK (.int 3)) mNil)))) (mCons (mK (.int 20)) mNil)))))))
    (mSeq (mPar [5, 6, 7] (mCons (mCall cf "_law_free" [false] (mCons (mVar 4) mNil)) (mCons (mCall cf "_law_sums" [false] (mCons (mVar 4) mNil)) (mCons (mLst mNil) mNil))))
    (mSeq (mSet 8 (mCall cf "_law_atom" [true, false, false] (mCons (mVar 2) (mCons (mK (.int 3)) (mCons (mK (.int 9)) mNil)))))
    (mSeq (mFor (sRng1 (mCons (mK (.int 8)) mNil)) (bName 9) (mSeq (mSet 10 (mLc (sRng1 (mCons (mK (.int 3)) mNil)) (bName 17) cYes (mCall cf "_law_number" [true] (mCons (mVar 2) mNil)) [17]))
    (mSeq (mIfS (mAndT (mTest (mOp ltF (mVar 9) (mK (.int 4)))) (mTest (mOp neF (mVar 6) (mLst mNil)))) (mSet 10 (mCall cf "_law_on_line" [true, false] (mCons (mVar 2) (mCons (mOp ixF (mVar 6) (mCall cf "_law_pick" [true, false] (mCons (mVar 2) (mCons (mB lenF (mCons (mVar 6) mNil)) mNil)))) mNil)))) mPass)
    (mSeq (mIfS (mTest (mOp gtF (mVar 9) (mK (.int 5)))) (mSet 10 (mLc (sRng1 (mCons (mK (.int 3)) mNil)) (bName 17) cYes (mTup (mCons (mOp subF (mCall cf "_law_pick" [true, false] (mCons (mVar 2) (mCons (mK (.int 25)) mNil))) (mK (.int 12))) (mCons (mK (.int 1)) mNil))) [17])) mPass)
    (mSeq (mPar [11, 12] (mCons (mB tupleF (mCons (mLc (sVal (mVar 5)) (bName 17) cYes (mOp ixF (mVar 10) (mVar 17)) [17]) mNil)) (mCons (mCall cf "_law_holds" [false, false] (mCons (mVar 4) (mCons (mVar 10) mNil))) mNil)))
    (mSeq (mIfS (mNotT (mTest (mCall cf "_law_same" [false, false] (mCons (mLst (mCons (mCall cf "true_at" [false, false] (mCons (mVar 4) (mCons (mVar 11) mNil))) (mCons (mCallK cf "true_at" [false, false] [1, 0] (mCons (mVar 11) (mCons (mVar 4) mNil))) mNil))) (mCons (mLst (mCons (mVar 12) (mCons (mVar 12) mNil))) mNil))))) (mRet (mK (.bool false))) mPass)
    (mSeq (mIfS (mNotT (mTest (mCall cf "_law_same" [false, false] (mCons (mCall cf "true_at" [false, false] (mCons (mTup (mCons (mK (.str "not")) (mCons (mVar 4) mNil))) (mCons (mVar 11) mNil))) (mCons (mNotV (mVar 12)) mNil))))) (mRet (mK (.bool false))) mPass)
    (mSeq (mSet 13 (mIf (mTest (mOp eqF (mCall cf "_law_pick" [true, false] (mCons (mVar 2) (mCons (mK (.int 2)) mNil))) (mK (.int 0)))) (mTup (mCons (mVar 4) (mCons (mVar 8) mNil))) (mTup (mCons (mVar 8) (mCons (mVar 4) mNil)))))
    (mSeq (mSet 14 (mB tupleF (mCons (mLc (sVal (mCall cf "_law_free" [false] (mCons (mOp addF (mTup (mCons (mK (.str "both")) mNil)) (mVar 13)) mNil))) (bName 17) cYes (mOp ixF (mVar 10) (mVar 17)) [17]) mNil)))
    (mSeq (mSet 15 (mCall cf "_law_holds" [false, false] (mCons (mVar 8) (mCons (mVar 10) mNil))))
    (mSeq (mSet 16 (mLst (mCons (mCall cf "true_at" [false, false] (mCons (mOp addF (mTup (mCons (mK (.str "both")) mNil)) (mVar 13)) (mCons (mVar 14) mNil))) (mCons (mCall cf "true_at" [false, false] (mCons (mOp addF (mTup (mCons (mK (.str "either")) mNil)) (mVar 13)) (mCons (mVar 14) mNil))) mNil))))
    (mSeq (mIfS (mNotT (mTest (mCall cf "_law_same" [false, false] (mCons (mVar 16) (mCons (mLst (mCons (mAndV (mVar 12) (mVar 15)) (mCons (mOrV (mVar 12) (mVar 15)) mNil))) mNil))))) (mRet (mK (.bool false))) mPass)
    (mDrop (mMeth 7 "list" appF (mCons (mTup (mCons (mVar 11) (mCons (mVar 12) mNil))) mNil)))))))))))))))
    (mFor (sVal (mUn revF (mVar 7))) (bTup 2 (bCons (bName 11) (bCons (bName 12) bNil))) (mIfS (mNotT (mTest (mCall cf "_law_same" [false, false] (mCons (mCall cf "true_at" [false, false] (mCons (mVar 4) (mCons (mVar 11) mNil))) (mCons (mVar 12) mNil))))) (mRet (mK (.bool false))) mPass)))))))))
    (mRet (mK (.bool true))))
def fn_law : Fn := { ps := ["script"], n := 18, body := cd_law, kws := [] }
def Γ : String → Option Fn
  | "is_integer" => some fn_is_integer
  | "is_below" => some fn_is_below
  | "is_fraction" => some fn_is_fraction
  | "is_sum" => some fn_is_sum
  | "is_atom_formed" => some fn_is_atom_formed
  | "inner_of" => some fn_inner_of
  | "is_saying" => some fn_is_saying
  | "check_saying" => some fn_check_saying
  | "inner_parts" => some fn_inner_parts
  | "is_atom" => some fn_is_atom
  | "variables_of" => some fn_variables_of
  | "free_of" => some fn_free_of
  | "parts_of" => some fn_parts_of
  | "is_plain" => some fn_is_plain
  | "sum_left" => some fn_sum_left
  | "is_atom_true" => some fn_is_atom_true
  | "is_true_at" => some fn_is_true_at
  | "check_numbers" => some fn_check_numbers
  | "true_at" => some fn_true_at
  | "_law_begin" => some fn__law_begin
  | "_law_tens" => some fn__law_tens
  | "_law_pick" => some fn__law_pick
  | "_law_same" => some fn__law_same
  | "_law_frac" => some fn__law_frac
  | "_law_sum" => some fn__law_sum
  | "_law_atom" => some fn__law_atom
  | "_law_saying" => some fn__law_saying
  | "_law_inner" => some fn__law_inner
  | "_law_free" => some fn__law_free
  | "_law_holds" => some fn__law_holds
  | "_law_number" => some fn__law_number
  | "_law_sums" => some fn__law_sums
  | "_law_small" => some fn__law_small
  | "_law_on_line" => some fn__law_on_line
  | "law" => some fn_law
  | _ => none
end K20
end P_Code_K20

section P_Walk_K20
set_option Elab.async false
set_option linter.all false
set_option maxRecDepth 100000
/-! The derivations of a T.py; printed by gen.py. -/
namespace K20
open PySem L2 PySem.Spec Ev
open PyProof.Rows hiding St
set_option autoImplicit false
def topS (i : Nat) : Stmt := PySem.Challenge.pw_wholeshapes_k20_whole_sayings_by_reckoni.main.body.getD i (.Pass ⟨0, 0, 0, 0⟩)
abbrev stm_is_integer : Stmt := topS 6
abbrev stm_is_below : Stmt := topS 7
abbrev stm_is_fraction : Stmt := topS 9
abbrev stm_is_sum : Stmt := topS 14
abbrev stm_is_atom_formed : Stmt := topS 15
abbrev stm_inner_of : Stmt := topS 16
abbrev stm_is_saying : Stmt := topS 17
abbrev stm_check_saying : Stmt := topS 18
abbrev stm_inner_parts : Stmt := topS 19
abbrev stm_is_atom : Stmt := topS 20
abbrev stm_variables_of : Stmt := topS 21
abbrev stm_free_of : Stmt := topS 22
abbrev stm_parts_of : Stmt := topS 23
abbrev stm_is_plain : Stmt := topS 24
abbrev stm_sum_left : Stmt := topS 25
abbrev stm_is_atom_true : Stmt := topS 26
abbrev stm_is_true_at : Stmt := topS 27
abbrev stm_check_numbers : Stmt := topS 28
abbrev stm_true_at : Stmt := topS 29
abbrev stm__law_begin : Stmt := topS 31
abbrev stm__law_tens : Stmt := topS 32
abbrev stm__law_pick : Stmt := topS 33
abbrev stm__law_same : Stmt := topS 34
abbrev stm__law_frac : Stmt := topS 35
abbrev stm__law_sum : Stmt := topS 36
abbrev stm__law_atom : Stmt := topS 37
abbrev stm__law_saying : Stmt := topS 38
abbrev stm__law_inner : Stmt := topS 39
abbrev stm__law_free : Stmt := topS 40
abbrev stm__law_holds : Stmt := topS 41
abbrev stm__law_number : Stmt := topS 42
abbrev stm__law_sums : Stmt := topS 43
abbrev stm__law_small : Stmt := topS 44
abbrev stm__law_on_line : Stmt := topS 45
abbrev stm_law : Stmt := topS 46
structure Bn (mg : PySem.Str → Option Value) : Prop where
  abs : mg "abs" = none
  all : mg "all" = none
  any : mg "any" = none
  bool : mg "bool" = none
  dict : mg "dict" = none
  gcd : mg "gcd" = some (.builtin "math.gcd")
  int : mg "int" = none
  isinstance : mg "isinstance" = none
  len : mg "len" = none
  list : mg "list" = none
  max : mg "max" = none
  min : mg "min" = none
  range : mg "range" = none
  sorted : mg "sorted" = none
  str : mg "str" = none
  tuple : mg "tuple" = none
  zip : mg "zip" = none
structure Cn (K : PySem.W.Frag) (w : World) (mg : PySem.Str → Option Value) : Prop where
  SUMS : Cst K mg "SUMS" K_SUMS
  TRIED : Cst K mg "TRIED" K_TRIED
  JOINED : CstD K w mg "JOINED" K_JOINED
section
variable {P : Program} {w : World} {K : PySem.W.Frag} {mg : PySem.Str → Option Value} {base : Heap} {n : Nat}
theorem sc_is_integer : FnScope N_is_integer [PySem.Str.ofString "value"] (defScope stm_is_integer) := ⟨rfl, rfl, rfl, by decide +kernel, rfl, by decide +kernel, by decide +kernel⟩
theorem dv_is_integer (B : Bn mg) (C : Cn K w mg) (T : Tb Γ P w K mg base n) {fa : Addr} {fd : FuncData} (F : Fun K (PySem.Str.ofString "is_integer") (PySem.Str.ofString "is_integer") stm_is_integer fa fd) : FnOk P w K mg base (L2.CX P w) (n + 1) fa fd [PySem.Str.ofString "value"] (spF ⟨K, mg⟩ (runFn fn_is_integer (callN Γ n))) :=
  fn_sound F sc_is_integer rfl rfl fun cdv A outer s H E β hr => by
    have hu := hu_of hr
    have nd := sc_is_integer.nd
    have tk : ∀ σ, PassesAt (L2.CX P w) (cxOf (L2.CX P w) P w K mg base N_is_integer (PySem.Str.ofString "is_integer") (defScope stm_is_integer) fa cdv A outer s H E) σ (WE (WB.w (wOf E β)) σ) := fun σ => passAt (takes_of rfl rfl rfl rfl) σ
    exact (xsone (xret (xand (xisi _ (k := .int) (xv _ _ 0) (by decide +kernel) rfl B.isinstance rfl B.int) (xone (xnot (xisi _ (k := .bool) (xv _ _ 0) (by decide +kernel) rfl B.isinstance rfl B.bool))))))
theorem sc_is_below : FnScope N_is_below [PySem.Str.ofString "value", PySem.Str.ofString "many"] (defScope stm_is_below) := ⟨rfl, rfl, rfl, by decide +kernel, rfl, by decide +kernel, by decide +kernel⟩
theorem dv_is_below (B : Bn mg) (C : Cn K w mg) (T : Tb Γ P w K mg base n) {fa : Addr} {fd : FuncData} (F : Fun K (PySem.Str.ofString "is_below") (PySem.Str.ofString "is_below") stm_is_below fa fd) : FnOk P w K mg base (L2.CX P w) (n + 1) fa fd [PySem.Str.ofString "value", PySem.Str.ofString "many"] (spF ⟨K, mg⟩ (runFn fn_is_below (callN Γ n))) :=
  fn_sound F sc_is_below rfl rfl fun cdv A outer s H E β hr => by
    have hu := hu_of hr
    have nd := sc_is_below.nd
    have tk : ∀ σ, PassesAt (L2.CX P w) (cxOf (L2.CX P w) P w K mg base N_is_below (PySem.Str.ofString "is_below") (defScope stm_is_below) fa cdv A outer s H E) σ (WE (WB.w (wOf E β)) σ) := fun σ => passAt (takes_of rfl rfl rfl rfl) σ
    exact (xsone (xret (xand (xcall (f := "is_integer") T hr tk rfl [false] rfl (xcons (xv _ _ 0) xnil)) (xone (xchain op_le s_le b_le op_lt s_lt xint (xv _ _ 0) (xv _ _ 1))))))
theorem sc_is_fraction : FnScope N_is_fraction [PySem.Str.ofString "value"] (defScope stm_is_fraction) := ⟨rfl, rfl, rfl, by decide +kernel, rfl, by decide +kernel, by decide +kernel⟩
theorem dv_is_fraction (B : Bn mg) (C : Cn K w mg) (T : Tb Γ P w K mg base n) {fa : Addr} {fd : FuncData} (F : Fun K (PySem.Str.ofString "is_fraction") (PySem.Str.ofString "is_fraction") stm_is_fraction fa fd) : FnOk P w K mg base (L2.CX P w) (n + 1) fa fd [PySem.Str.ofString "value"] (spF ⟨K, mg⟩ (runFn fn_is_fraction (callN Γ n))) :=
  fn_sound F sc_is_fraction rfl rfl fun cdv A outer s H E β hr => by
    have hu := hu_of hr
    have nd := sc_is_fraction.nd
    have tk : ∀ σ, PassesAt (L2.CX P w) (cxOf (L2.CX P w) P w K mg base N_is_fraction (PySem.Str.ofString "is_fraction") (defScope stm_is_fraction) fa cdv A outer s H E) σ (WE (WB.w (wOf E β)) σ) := fun σ => passAt (takes_of rfl rfl rfl rfl) σ
    exact (xscons (xifs (xwt (xwor (xtnot (xtval (xisi _ (k := .tuple) (xv _ _ 0) (by decide +kernel) rfl B.isinstance rfl B.tuple))) (xwor1 (xtcmp (op_neD hr.units) s_ne (xb call_lenA s_len rfl B.len (by decide +kernel) (xcons (xv _ _ 0) xnil)) xint (nomark _))))) (xsone (xret xbl)) xsnil)
      (xscons (xunp (xv _ _ 0) (gtup rfl (gcons (gname (i := 1) nd rfl (.inl rfl)) (gcons (gname (i := 2) nd rfl (.inl rfl)) gnil))))
      (xsone (xret (xand (xcall (f := "is_integer") T hr tk rfl [false] rfl (xcons (xv _ _ 1) xnil)) (xand (xcall (f := "is_integer") T hr tk rfl [false] rfl (xcons (xv _ _ 2) xnil)) (xand (xcmp op_ge s_ge (xv _ _ 2) xint (nomark _)) (xone (xcmp (op_eqD hr.units) s_eq (xbm cr_gcd s_gcd rfl B.gcd (xcons (xv _ _ 1) (xcons (xv _ _ 2) xnil))) xint (nomark _))))))))))
theorem sc_is_sum : FnScope N_is_sum [PySem.Str.ofString "told"] (defScope stm_is_sum) := ⟨rfl, rfl, rfl, by decide +kernel, rfl, by decide +kernel, by decide +kernel⟩
theorem dv_is_sum (B : Bn mg) (C : Cn K w mg) (T : Tb Γ P w K mg base n) {fa : Addr} {fd : FuncData} (F : Fun K (PySem.Str.ofString "is_sum") (PySem.Str.ofString "is_sum") stm_is_sum fa fd) : FnOk P w K mg base (L2.CX P w) (n + 1) fa fd [PySem.Str.ofString "told"] (spF ⟨K, mg⟩ (runFn fn_is_sum (callN Γ n))) :=
  fn_sound F sc_is_sum rfl rfl fun cdv A outer s H E β hr => by
    have hu := hu_of hr
    have nd := sc_is_sum.nd
    have tk : ∀ σ, PassesAt (L2.CX P w) (cxOf (L2.CX P w) P w K mg base N_is_sum (PySem.Str.ofString "is_sum") (defScope stm_is_sum) fa cdv A outer s H E) σ (WE (WB.w (wOf E β)) σ) := fun σ => passAt (takes_of rfl rfl rfl rfl) σ
    exact (xscons (xifs (xwt (xwor (xtcmp (op_neD hr.units) s_ne (xb call_lenA s_len rfl B.len (by decide +kernel) (xcons (xv _ _ 0) xnil)) xint (nomark _)) (xwor1 (xtnot (xtval (xcall (f := "is_integer") T hr tk rfl [false] rfl (xcons (xix _ (xv _ _ 0) xint (fun _ _ => rfl)) xnil))))))) (xsone (xret xbl)) xsnil)
      (xsone (xret (xand (xisi _ (k := .tuple) (xix _ (xv _ _ 0) xint (fun _ _ => rfl)) (by decide +kernel) rfl B.isinstance rfl B.tuple) (xand (xcmp (op_eqD hr.units) s_eq (xb call_lenA s_len rfl B.len (by decide +kernel) (xcons (xix _ (xv _ _ 0) xint (fun _ _ => rfl)) xnil)) xint (nomark _)) (xone (xb (cr_all rfl) s_all rfl B.all (by decide +kernel) (xcons (xlc rfl nd (xival (xix _ (xv _ _ 0) xint (fun _ _ => rfl))) (own := [("many", 1)]) (blkOk_by (own := [("many", 1)]) (N := N_is_sum) (sc := defScope stm_is_sum) (by decide +kernel)) (fun _ _ _ _ _ => (gname (i := 1) nd rfl (.inl rfl))) (fun _ _ _ _ _ => xcyes) (fun _ _ _ _ _ => (xcall (f := "is_integer") T (by exact hr) (by exact fun σ => passF σ) rfl [false] rfl (xcons (xv _ _ 1) xnil))) (wp_name (by decide)) gm_name) xnil))))))))
theorem sc_is_atom_formed : FnScope N_is_atom_formed [PySem.Str.ofString "told"] (defScope stm_is_atom_formed) := ⟨rfl, rfl, rfl, by decide +kernel, rfl, by decide +kernel, by decide +kernel⟩
theorem dv_is_atom_formed (B : Bn mg) (C : Cn K w mg) (T : Tb Γ P w K mg base n) {fa : Addr} {fd : FuncData} (F : Fun K (PySem.Str.ofString "is_atom_formed") (PySem.Str.ofString "is_atom_formed") stm_is_atom_formed fa fd) : FnOk P w K mg base (L2.CX P w) (n + 1) fa fd [PySem.Str.ofString "told"] (spF ⟨K, mg⟩ (runFn fn_is_atom_formed (callN Γ n))) :=
  fn_sound F sc_is_atom_formed rfl rfl fun cdv A outer s H E β hr => by
    have hu := hu_of hr
    have nd := sc_is_atom_formed.nd
    have tk : ∀ σ, PassesAt (L2.CX P w) (cxOf (L2.CX P w) P w K mg base N_is_atom_formed (PySem.Str.ofString "is_atom_formed") (defScope stm_is_atom_formed) fa cdv A outer s H E) σ (WE (WB.w (wOf E β)) σ) := fun σ => passAt (takes_of rfl rfl rfl rfl) σ
    exact (xscons (xifs (xtcmp op_in_seq s_in (xix _ (xv _ _ 0) xint (fun _ _ => rfl)) (xcst rfl C.SUMS) (by rfl)) (xsone (xret (xcall (f := "is_sum") T hr tk rfl [false] rfl (xcons (xv _ _ 0) xnil)))) xsnil)
      (xscons (xifs (xwt (xwor (xtcmp op_lt s_lt (xb call_lenA s_len rfl B.len (by decide +kernel) (xcons (xv _ _ 0) xnil)) xint (nomark _)) (xwor1 (xtnot (xtval (xcall (f := "is_below") T hr tk rfl [false, false] rfl (xcons (xix _ (xv _ _ 0) xint (fun _ _ => rfl)) (xcons xint xnil)))))))) (xsone (xret xbl)) xsnil)
      (xscons (xifs (xtcmp (op_eqD hr.units) s_eq (xix _ (xv _ _ 0) xint (fun _ _ => rfl)) xstr (nomark _)) (xsone (xret (xand (xcmp (op_eqD hr.units) s_eq (xb call_lenA s_len rfl B.len (by decide +kernel) (xcons (xv _ _ 0) xnil)) xint (nomark _)) (xand (xcall (f := "is_integer") T hr tk rfl [false] rfl (xcons (xix _ (xv _ _ 0) xint (fun _ _ => rfl)) xnil)) (xand (xcmp op_ge s_ge (xix _ (xv _ _ 0) xint (fun _ _ => rfl)) xint (nomark _)) (xone (xcall (f := "is_below") T hr tk rfl [false, false] rfl (xcons (xix _ (xv _ _ 0) xint (fun _ _ => rfl)) (xcons (xix _ (xv _ _ 0) xint (fun _ _ => rfl)) xnil))))))))) xsnil)
      (xsone (xret (xand (xcmp (op_eqD hr.units) s_eq (xix _ (xv _ _ 0) xint (fun _ _ => rfl)) xstr (nomark _)) (xone (xcmp (op_eqD hr.units) s_eq (xb call_lenA s_len rfl B.len (by decide +kernel) (xcons (xv _ _ 0) xnil)) xint (nomark _)))))))))
theorem sc_inner_of : FnScope N_inner_of [PySem.Str.ofString "told"] (defScope stm_inner_of) := ⟨rfl, rfl, rfl, by decide +kernel, rfl, by decide +kernel, by decide +kernel⟩
theorem dv_inner_of (B : Bn mg) (C : Cn K w mg) (T : Tb Γ P w K mg base n) {fa : Addr} {fd : FuncData} (F : Fun K (PySem.Str.ofString "inner_of") (PySem.Str.ofString "inner_of") stm_inner_of fa fd) : FnOk P w K mg base (L2.CX P w) (n + 1) fa fd [PySem.Str.ofString "told"] (spF ⟨K, mg⟩ (runFn fn_inner_of (callN Γ n))) :=
  fn_sound F sc_inner_of rfl rfl fun cdv A outer s H E β hr => by
    have hu := hu_of hr
    have nd := sc_inner_of.nd
    have tk : ∀ σ, PassesAt (L2.CX P w) (cxOf (L2.CX P w) P w K mg base N_inner_of (PySem.Str.ofString "inner_of") (defScope stm_inner_of) fa cdv A outer s H E) σ (WE (WB.w (wOf E β)) σ) := fun σ => passAt (takes_of rfl rfl rfl rfl) σ
    exact (xscons (xifs (xwt (xwor (xtnot (xtval (xisi _ (k := .tuple) (xv _ _ 0) (by decide +kernel) rfl B.isinstance rfl B.tuple))) (xwor (xtcmp (op_eqD hr.units) s_eq (xb call_lenA s_len rfl B.len (by decide +kernel) (xcons (xv _ _ 0) xnil)) xint (nomark _)) (xwor1 (xtnot (xtval (xisi _ (k := .str) (xix _ (xv _ _ 0) xint (fun _ _ => rfl)) (by decide +kernel) rfl B.isinstance rfl B.str))))))) (xsone (xret xnon)) xsnil)
      (xscons (xifs (xtcin C.JOINED (xix _ (xv _ _ 0) xint (fun _ _ => rfl)) rfl) (xsone (xret (xif (xtcmp (op_eqD hr.units) s_eq (xb call_lenA s_len rfl B.len (by decide +kernel) (xcons (xv _ _ 0) xnil)) (xop op_addA s_add (xcget C.JOINED (fun _ _ => rfl) (xix _ (xv _ _ 0) xint (fun _ _ => rfl)) rfl) xint) (nomark _)) (xsl (xv _ _ 0) (xpsome xint) (xpnone _)) xnon))) xsnil)
      (xscons (xifs (xtcmp op_in_seq s_in (xix _ (xv _ _ 0) xint (fun _ _ => rfl)) (xcst rfl C.TRIED) (by rfl)) (xsone (xret (xif (xwt (xwand (xtcmp (op_eqD hr.units) s_eq (xb call_lenA s_len rfl B.len (by decide +kernel) (xcons (xv _ _ 0) xnil)) xint (nomark _)) (xwand1 (xtval (xcall (f := "is_below") T hr tk rfl [false, false] rfl (xcons (xix _ (xv _ _ 0) xint (fun _ _ => rfl)) (xcons xint xnil))))))) (xsl (xv _ _ 0) (xpsome xint) (xpnone _)) xnon))) xsnil)
      (xsone (xret (xif (xtval (xcall (f := "is_atom_formed") T hr tk rfl [false] rfl (xcons (xv _ _ 0) xnil))) (xtup xnil) xnon))))))
theorem sc_is_saying : FnScope N_is_saying [PySem.Str.ofString "value"] (defScope stm_is_saying) := ⟨rfl, rfl, rfl, by decide +kernel, rfl, by decide +kernel, by decide +kernel⟩
theorem dv_is_saying (B : Bn mg) (C : Cn K w mg) (T : Tb Γ P w K mg base n) {fa : Addr} {fd : FuncData} (F : Fun K (PySem.Str.ofString "is_saying") (PySem.Str.ofString "is_saying") stm_is_saying fa fd) : FnOk P w K mg base (L2.CX P w) (n + 1) fa fd [PySem.Str.ofString "value"] (spF ⟨K, mg⟩ (runFn fn_is_saying (callN Γ n))) :=
  fn_sound F sc_is_saying rfl rfl fun cdv A outer s H E β hr => by
    have hu := hu_of hr
    have nd := sc_is_saying.nd
    have tk : ∀ σ, PassesAt (L2.CX P w) (cxOf (L2.CX P w) P w K mg base N_is_saying (PySem.Str.ofString "is_saying") (defScope stm_is_saying) fa cdv A outer s H E) σ (WE (WB.w (wOf E β)) σ) := fun σ => passAt (takes_of rfl rfl rfl rfl) σ
    exact (xscons (xset (i := 1) nd rfl (.inl rfl) (xlst (xcons (xv _ _ 0) xnil)))
      (xscons (xwhile (passes_of rfl) (xtcmp op_gt s_gt (xb call_lenA s_len rfl B.len (by decide +kernel) (xcons (xv _ _ 1) xnil)) xint (nomark _)) (xscons (xset (i := 2) nd rfl (.inl rfl) (xcall (f := "inner_of") T hr tk rfl [false] rfl (xcons (xmeth0 PySem.F.plainAttrs_list PySem.F.slot_list_pop PySem.F.type_list_pop mt_pop s_pop (xv _ _ 1)) xnil)))
      (xscons (xifs (xtcmp op_isN s_is (xv _ _ 2) xnon (nomark _)) (xsone (xret xbl)) xsnil)
      (xsone (xdrop (xmeth PySem.F.plainAttrs_list PySem.F.slot_list_extend PySem.F.type_list_extend mt_extA s_ext (xv _ _ 1) (by exact (xcons (xv _ _ 2) xnil))))))))
      (xsone (xret xbl))))
theorem sc_check_saying : FnScope N_check_saying [PySem.Str.ofString "saying"] (defScope stm_check_saying) := ⟨rfl, rfl, rfl, by decide +kernel, rfl, by decide +kernel, by decide +kernel⟩
theorem dv_check_saying (B : Bn mg) (C : Cn K w mg) (T : Tb Γ P w K mg base n) {fa : Addr} {fd : FuncData} (F : Fun K (PySem.Str.ofString "check_saying") (PySem.Str.ofString "check_saying") stm_check_saying fa fd) : FnOk P w K mg base (L2.CX P w) (n + 1) fa fd [PySem.Str.ofString "saying"] (spF ⟨K, mg⟩ (runFn fn_check_saying (callN Γ n))) :=
  fn_sound F sc_check_saying rfl rfl fun cdv A outer s H E β hr => by
    have hu := hu_of hr
    have nd := sc_check_saying.nd
    have tk : ∀ σ, PassesAt (L2.CX P w) (cxOf (L2.CX P w) P w K mg base N_check_saying (PySem.Str.ofString "check_saying") (defScope stm_check_saying) fa cdv A outer s H E) σ (WE (WB.w (wOf E β)) σ) := fun σ => passAt (takes_of rfl rfl rfl rfl) σ
    exact (xsone (xifs (xtnot (xtval (xcall (f := "is_saying") T hr tk rfl [false] rfl (xcons (xv _ _ 0) xnil)))) (xsone xnever) xsnil))
theorem sc_inner_parts : FnScope N_inner_parts [PySem.Str.ofString "saying"] (defScope stm_inner_parts) := ⟨rfl, rfl, rfl, by decide +kernel, rfl, by decide +kernel, by decide +kernel⟩
theorem dv_inner_parts (B : Bn mg) (C : Cn K w mg) (T : Tb Γ P w K mg base n) {fa : Addr} {fd : FuncData} (F : Fun K (PySem.Str.ofString "inner_parts") (PySem.Str.ofString "inner_parts") stm_inner_parts fa fd) : FnOk P w K mg base (L2.CX P w) (n + 1) fa fd [PySem.Str.ofString "saying"] (spF ⟨K, mg⟩ (runFn fn_inner_parts (callN Γ n))) :=
  fn_sound F sc_inner_parts rfl rfl fun cdv A outer s H E β hr => by
    have hu := hu_of hr
    have nd := sc_inner_parts.nd
    have tk : ∀ σ, PassesAt (L2.CX P w) (cxOf (L2.CX P w) P w K mg base N_inner_parts (PySem.Str.ofString "inner_parts") (defScope stm_inner_parts) fa cdv A outer s H E) σ (WE (WB.w (wOf E β)) σ) := fun σ => passAt (takes_of rfl rfl rfl rfl) σ
    exact (xscons (xifs (xtcin C.JOINED (xix _ (xv _ _ 0) xint (fun _ _ => rfl)) rfl) (xsone (xret (xsl (xv _ _ 0) (xpsome xint) (xpnone _)))) xsnil)
      (xsone (xret (xif (xtcmp op_in_seq s_in (xix _ (xv _ _ 0) xint (fun _ _ => rfl)) (xcst rfl C.TRIED) (by rfl)) (xsl (xv _ _ 0) (xpsome xint) (xpnone _)) (xtup xnil)))))
theorem sc_is_atom : FnScope N_is_atom [PySem.Str.ofString "saying"] (defScope stm_is_atom) := ⟨rfl, rfl, rfl, by decide +kernel, rfl, by decide +kernel, by decide +kernel⟩
theorem dv_is_atom (B : Bn mg) (C : Cn K w mg) (T : Tb Γ P w K mg base n) {fa : Addr} {fd : FuncData} (F : Fun K (PySem.Str.ofString "is_atom") (PySem.Str.ofString "is_atom") stm_is_atom fa fd) : FnOk P w K mg base (L2.CX P w) (n + 1) fa fd [PySem.Str.ofString "saying"] (spF ⟨K, mg⟩ (runFn fn_is_atom (callN Γ n))) :=
  fn_sound F sc_is_atom rfl rfl fun cdv A outer s H E β hr => by
    have hu := hu_of hr
    have nd := sc_is_atom.nd
    have tk : ∀ σ, PassesAt (L2.CX P w) (cxOf (L2.CX P w) P w K mg base N_is_atom (PySem.Str.ofString "is_atom") (defScope stm_is_atom) fa cdv A outer s H E) σ (WE (WB.w (wOf E β)) σ) := fun σ => passAt (takes_of rfl rfl rfl rfl) σ
    exact (xsone (xret (xand (xcnin C.JOINED (xix _ (xv _ _ 0) xint (fun _ _ => rfl)) rfl) (xone (xcmp op_notIn_seq s_nin (xix _ (xv _ _ 0) xint (fun _ _ => rfl)) (xcst rfl C.TRIED) (by rfl))))))
theorem sc_variables_of : FnScope N_variables_of [PySem.Str.ofString "atom"] (defScope stm_variables_of) := ⟨rfl, rfl, rfl, by decide +kernel, rfl, by decide +kernel, by decide +kernel⟩
theorem dv_variables_of (B : Bn mg) (C : Cn K w mg) (T : Tb Γ P w K mg base n) {fa : Addr} {fd : FuncData} (F : Fun K (PySem.Str.ofString "variables_of") (PySem.Str.ofString "variables_of") stm_variables_of fa fd) : FnOk P w K mg base (L2.CX P w) (n + 1) fa fd [PySem.Str.ofString "atom"] (spF ⟨K, mg⟩ (runFn fn_variables_of (callN Γ n))) :=
  fn_sound F sc_variables_of rfl rfl fun cdv A outer s H E β hr => by
    have hu := hu_of hr
    have nd := sc_variables_of.nd
    have tk : ∀ σ, PassesAt (L2.CX P w) (cxOf (L2.CX P w) P w K mg base N_variables_of (PySem.Str.ofString "variables_of") (defScope stm_variables_of) fa cdv A outer s H E) σ (WE (WB.w (wOf E β)) σ) := fun σ => passAt (takes_of rfl rfl rfl rfl) σ
    exact (xscons (xifs (xtcmp op_in_seq s_in (xix _ (xv _ _ 0) xint (fun _ _ => rfl)) (xcst rfl C.SUMS) (by rfl)) (xsone (xret (xty call_tuple_of s_tuple rfl B.tuple (by decide +kernel) (xcons (xlc rfl nd (xirng1 rfl B.range (xcons xint xnil)) (own := [("i", 1)]) (blkOk_by (own := [("i", 1)]) (N := N_variables_of) (sc := defScope stm_variables_of) (by decide +kernel)) (fun _ _ _ _ _ => (gname (i := 1) nd rfl (.inl rfl))) (fun _ _ _ _ _ => (xcone (xtcmp (op_neD hr.units) s_ne (xix _ (xix _ (xv _ _ 0) xint (fun _ _ => rfl)) (xv _ _ 1) (fun _ _ => rfl)) xint (nomark _)))) (fun _ _ _ _ _ => (xv _ _ 1)) (wp_name (by decide)) gm_name) xnil)))) xsnil)
      (xsone (xret (xsl (xv _ _ 0) (xpsome xint) (xpsome xint)))))
theorem sc_free_of : FnScope N_free_of [PySem.Str.ofString "saying"] (defScope stm_free_of) := ⟨rfl, rfl, rfl, by decide +kernel, rfl, by decide +kernel, by decide +kernel⟩
theorem dv_free_of (B : Bn mg) (C : Cn K w mg) (T : Tb Γ P w K mg base n) {fa : Addr} {fd : FuncData} (F : Fun K (PySem.Str.ofString "free_of") (PySem.Str.ofString "free_of") stm_free_of fa fd) : FnOk P w K mg base (L2.CX P w) (n + 1) fa fd [PySem.Str.ofString "saying"] (spF ⟨K, mg⟩ (runFn fn_free_of (callN Γ n))) :=
  fn_sound F sc_free_of rfl rfl fun cdv A outer s H E β hr => by
    have hu := hu_of hr
    have nd := sc_free_of.nd
    have tk : ∀ σ, PassesAt (L2.CX P w) (cxOf (L2.CX P w) P w K mg base N_free_of (PySem.Str.ofString "free_of") (defScope stm_free_of) fa cdv A outer s H E) σ (WE (WB.w (wOf E β)) σ) := fun σ => passAt (takes_of rfl rfl rfl rfl) σ
    exact (xscons (xifs (xtval (xcall (f := "is_atom") T hr tk rfl [false] rfl (xcons (xv _ _ 0) xnil))) (xsone (xret (xcall (f := "variables_of") T hr tk rfl [false] rfl (xcons (xv _ _ 0) xnil)))) xsnil)
      (xscons (xsetdc2 (i := 1) (own := [("part", 2), ("i", 3)]) (ns1 := [3]) rfl nd rfl rfl (sw_trueD rfl rfl rfl (by decide +kernel)) (xival (xcall (f := "inner_parts") T hr tk rfl [false] rfl (xcons (xv _ _ 0) xnil))) (blkOk_by (own := [("part", 2), ("i", 3)]) (N := N_free_of) (sc := defScope stm_free_of) (by decide +kernel)) (by decide) (fun _ _ _ _ _ => (gname (i := 2) nd rfl (.inl rfl))) (fun _ _ _ _ _ => xcyes) (fun _ _ _ _ _ => (xival (xcall (f := "free_of") T (by exact hr) (by exact fun σ => passF σ) rfl [false] rfl (xcons (xv _ _ 2) xnil)))) (fun _ _ _ _ _ => (gname (i := 3) nd rfl (.inl rfl))) (fun _ _ _ _ _ => xcyes) (fun _ _ _ _ _ => (xv _ _ 3)) (fun _ _ _ _ _ => xbl) (wp_name (by decide)) gm_name (wp_name (by decide)) gm_name)
      (xscons (xifs (xtcmp op_in_seq s_in (xix _ (xv _ _ 0) xint (fun _ _ => rfl)) (xcst rfl C.TRIED) (by rfl)) (xsone (xdrop (xmeth PySem.F.plainAttrs_dict PySem.F.slot_dict_pop PySem.F.type_dict_pop mt_popK s_popK (xv _ _ 1) (by exact (xcons (xix _ (xv _ _ 0) xint (fun _ _ => rfl)) (xcons xnon xnil)))))) xsnil)
      (xsone (xret (xty call_tuple_of s_tuple rfl B.tuple (by decide +kernel) (xcons (xb (cr_sortedA cr_sortedI rfl) s_sortedA rfl B.sorted (by decide +kernel) (xcons (xv _ _ 1) xnil)) xnil)))))))
theorem sc_parts_of : FnScope N_parts_of [PySem.Str.ofString "saying"] (defScope stm_parts_of) := ⟨rfl, rfl, rfl, by decide +kernel, rfl, by decide +kernel, by decide +kernel⟩
theorem dv_parts_of (B : Bn mg) (C : Cn K w mg) (T : Tb Γ P w K mg base n) {fa : Addr} {fd : FuncData} (F : Fun K (PySem.Str.ofString "parts_of") (PySem.Str.ofString "parts_of") stm_parts_of fa fd) : FnOk P w K mg base (L2.CX P w) (n + 1) fa fd [PySem.Str.ofString "saying"] (spF ⟨K, mg⟩ (runFn fn_parts_of (callN Γ n))) :=
  fn_sound F sc_parts_of rfl rfl fun cdv A outer s H E β hr => by
    have hu := hu_of hr
    have nd := sc_parts_of.nd
    have tk : ∀ σ, PassesAt (L2.CX P w) (cxOf (L2.CX P w) P w K mg base N_parts_of (PySem.Str.ofString "parts_of") (defScope stm_parts_of) fa cdv A outer s H E) σ (WE (WB.w (wOf E β)) σ) := fun σ => passAt (takes_of rfl rfl rfl rfl) σ
    exact (xscons (xsetlc2 (i := 1) (own := [("part", 2), ("own", 3)]) (ns1 := [3]) rfl nd rfl rfl (sw_true rfl rfl rfl (by decide +kernel)) (xival (xcall (f := "inner_parts") T hr tk rfl [false] rfl (xcons (xv _ _ 0) xnil))) (blkOk_by (own := [("part", 2), ("own", 3)]) (N := N_parts_of) (sc := defScope stm_parts_of) (by decide +kernel)) (by decide) (fun _ _ _ _ _ => (gname (i := 2) nd rfl (.inl rfl))) (fun _ _ _ _ _ => xcyes) (fun _ _ _ _ _ => (xival (xcall (f := "parts_of") T (by exact hr) (by exact fun σ => passF σ) rfl [false] rfl (xcons (xv _ _ 2) xnil)))) (fun _ _ _ _ _ => (gname (i := 3) nd rfl (.inl rfl))) (fun _ _ _ _ _ => xcyes) (fun _ _ _ _ _ => (xv _ _ 3)) (wp_name (by decide)) gm_name (wp_name (by decide)) gm_name)
      (xsone (xret (xop op_addA s_add (xty call_tuple_of s_tuple rfl B.tuple (by decide +kernel) (xcons (xv _ _ 1) xnil)) (xtup (xcons (xv _ _ 0) xnil))))))
theorem sc_is_plain : FnScope N_is_plain [PySem.Str.ofString "saying"] (defScope stm_is_plain) := ⟨rfl, rfl, rfl, by decide +kernel, rfl, by decide +kernel, by decide +kernel⟩
theorem dv_is_plain (B : Bn mg) (C : Cn K w mg) (T : Tb Γ P w K mg base n) {fa : Addr} {fd : FuncData} (F : Fun K (PySem.Str.ofString "is_plain") (PySem.Str.ofString "is_plain") stm_is_plain fa fd) : FnOk P w K mg base (L2.CX P w) (n + 1) fa fd [PySem.Str.ofString "saying"] (spF ⟨K, mg⟩ (runFn fn_is_plain (callN Γ n))) :=
  fn_sound F sc_is_plain rfl rfl fun cdv A outer s H E β hr => by
    have hu := hu_of hr
    have nd := sc_is_plain.nd
    have tk : ∀ σ, PassesAt (L2.CX P w) (cxOf (L2.CX P w) P w K mg base N_is_plain (PySem.Str.ofString "is_plain") (defScope stm_is_plain) fa cdv A outer s H E) σ (WE (WB.w (wOf E β)) σ) := fun σ => passAt (takes_of rfl rfl rfl rfl) σ
    exact (xsone (xret (xb (cr_all rfl) s_all rfl B.all (by decide +kernel) (xcons (xlc rfl nd (xival (xcall (f := "parts_of") T hr tk rfl [false] rfl (xcons (xv _ _ 0) xnil))) (own := [("part", 1)]) (blkOk_by (own := [("part", 1)]) (N := N_is_plain) (sc := defScope stm_is_plain) (by decide +kernel)) (fun _ _ _ _ _ => (gname (i := 1) nd rfl (.inl rfl))) (fun _ _ _ _ _ => xcyes) (fun _ _ _ _ _ => (xcmp op_notIn_seq s_nin (xix _ (xv _ _ 1) xint (fun _ _ => rfl)) (xcst rfl C.TRIED) (by rfl))) (wp_name (by decide)) gm_name) xnil))))
theorem sc_sum_left : FnScope N_sum_left [PySem.Str.ofString "many", PySem.Str.ofString "limit", PySem.Str.ofString "given"] (defScope stm_sum_left) := ⟨rfl, rfl, rfl, by decide +kernel, rfl, by decide +kernel, by decide +kernel⟩
theorem dv_sum_left (B : Bn mg) (C : Cn K w mg) (T : Tb Γ P w K mg base n) {fa : Addr} {fd : FuncData} (F : Fun K (PySem.Str.ofString "sum_left") (PySem.Str.ofString "sum_left") stm_sum_left fa fd) : FnOk P w K mg base (L2.CX P w) (n + 1) fa fd [PySem.Str.ofString "many", PySem.Str.ofString "limit", PySem.Str.ofString "given"] (spF ⟨K, mg⟩ (runFn fn_sum_left (callN Γ n))) :=
  fn_sound F sc_sum_left rfl rfl fun cdv A outer s H E β hr => by
    have hu := hu_of hr
    have nd := sc_sum_left.nd
    have tk : ∀ σ, PassesAt (L2.CX P w) (cxOf (L2.CX P w) P w K mg base N_sum_left (PySem.Str.ofString "sum_left") (defScope stm_sum_left) fa cdv A outer s H E) σ (WE (WB.w (wOf E β)) σ) := fun σ => passAt (takes_of rfl rfl rfl rfl) σ
    exact (xscons (xset (i := 3) nd rfl (.inl rfl) xint)
      (xscons (xforit (x := "given") (i := 2) (passes_of rfl) rfl rfl (by first | exact Or.inl rfl | exact Or.inr (Or.inl rfl) | exact Or.inr (Or.inr rfl)) (gtup rfl (gcons (gname (i := 4) nd rfl (.inl rfl)) (gcons (gname (i := 5) nd rfl (.inl rfl)) gnil))) (xsone (xset (i := 3) nd rfl (.inl rfl) (xop op_mulA s_mul (xv _ _ 3) (xif (xtcmp (op_neD hr.units) s_ne (xix _ (xv _ _ 0) (xv _ _ 4) (fun _ _ => rfl)) xint (nomark _)) (xix _ (xv _ _ 5) xint (fun _ _ => rfl)) xint)))))
      (xscons (xset (i := 6) nd rfl (.inl rfl) (xop op_mulA s_mul (xun un_neg s_neg (xv _ _ 1)) (xv _ _ 3)))
      (xscons (xforit (x := "given") (i := 2) (passes_of rfl) rfl rfl (by first | exact Or.inl rfl | exact Or.inr (Or.inl rfl) | exact Or.inr (Or.inr rfl)) (gtup rfl (gcons (gname (i := 4) nd rfl (.inl rfl)) (gcons (gname (i := 5) nd rfl (.inl rfl)) gnil))) (xsone (xifs (xtcmp (op_neD hr.units) s_ne (xix _ (xv _ _ 0) (xv _ _ 4) (fun _ _ => rfl)) xint (nomark _)) (xsone (xset (i := 6) nd rfl (.inl rfl) (xop op_addA s_add (xv _ _ 6) (xop op_mulA s_mul (xop op_mulA s_mul (xix _ (xv _ _ 0) (xv _ _ 4) (fun _ _ => rfl)) (xix _ (xv _ _ 5) xint (fun _ _ => rfl))) (xop op_fdivX s_fdiv (xv _ _ 3) (xix _ (xv _ _ 5) xint (fun _ _ => rfl))))))) xsnil)))
      (xsone (xret (xv _ _ 6)))))))
theorem sc_is_atom_true : FnScope N_is_atom_true [PySem.Str.ofString "atom", PySem.Str.ofString "given"] (defScope stm_is_atom_true) := ⟨rfl, rfl, rfl, by decide +kernel, rfl, by decide +kernel, by decide +kernel⟩
theorem dv_is_atom_true (B : Bn mg) (C : Cn K w mg) (T : Tb Γ P w K mg base n) {fa : Addr} {fd : FuncData} (F : Fun K (PySem.Str.ofString "is_atom_true") (PySem.Str.ofString "is_atom_true") stm_is_atom_true fa fd) : FnOk P w K mg base (L2.CX P w) (n + 1) fa fd [PySem.Str.ofString "atom", PySem.Str.ofString "given"] (spF ⟨K, mg⟩ (runFn fn_is_atom_true (callN Γ n))) :=
  fn_sound F sc_is_atom_true rfl rfl fun cdv A outer s H E β hr => by
    have hu := hu_of hr
    have nd := sc_is_atom_true.nd
    have tk : ∀ σ, PassesAt (L2.CX P w) (cxOf (L2.CX P w) P w K mg base N_is_atom_true (PySem.Str.ofString "is_atom_true") (defScope stm_is_atom_true) fa cdv A outer s H E) σ (WE (WB.w (wOf E β)) σ) := fun σ => passAt (takes_of rfl rfl rfl rfl) σ
    exact (xscons (xifs (xtcmp op_in_seq s_in (xix _ (xv _ _ 0) xint (fun _ _ => rfl)) (xcst rfl C.SUMS) (by rfl)) (xscons (xset (i := 2) nd rfl (.inl rfl) (xcall (f := "sum_left") T hr tk rfl [false, false, false] rfl (xcons (xix _ (xv _ _ 0) xint (fun _ _ => rfl)) (xcons (xix _ (xv _ _ 0) xint (fun _ _ => rfl)) (xcons (xv _ _ 1) xnil)))))
      (xscons (xifs (xtcmp (op_eqD hr.units) s_eq (xix _ (xv _ _ 0) xint (fun _ _ => rfl)) xstr (nomark _)) (xsone (xret (xcmp op_lt s_lt (xv _ _ 2) xint (nomark _)))) xsnil)
      (xsone (xret (xif (xtcmp (op_eqD hr.units) s_eq (xix _ (xv _ _ 0) xint (fun _ _ => rfl)) xstr (nomark _)) (xcmp op_le s_le (xv _ _ 2) xint (nomark _)) (xcmp (op_eqD hr.units) s_eq (xv _ _ 2) xint (nomark _))))))) xsnil)
      (xscons (xset (i := 3) nd rfl (.inl rfl) (xdget hu (xv _ _ 1) (xix _ (xv _ _ 0) xint (fun _ _ => rfl)) (fun _ _ => rfl)))
      (xsone (xret (xand (xcmp (op_eqD hr.units) s_eq (xix _ (xv _ _ 3) xint (fun _ _ => rfl)) xint (nomark _)) (xone (xor (xcmp (op_eqD hr.units) s_eq (xix _ (xv _ _ 0) xint (fun _ _ => rfl)) xstr (nomark _)) (xone (xcmp (op_eqD hr.units) s_eq (xop op_modN s_mod (xix _ (xv _ _ 3) xint (fun _ _ => rfl)) (xix _ (xv _ _ 0) xint (fun _ _ => rfl))) (xix _ (xv _ _ 0) xint (fun _ _ => rfl)) (nomark _))))))))))
theorem sc_is_true_at : FnScope N_is_true_at [PySem.Str.ofString "saying", PySem.Str.ofString "given"] (defScope stm_is_true_at) := ⟨rfl, rfl, rfl, by decide +kernel, rfl, by decide +kernel, by decide +kernel⟩
theorem dv_is_true_at (B : Bn mg) (C : Cn K w mg) (T : Tb Γ P w K mg base n) {fa : Addr} {fd : FuncData} (F : Fun K (PySem.Str.ofString "is_true_at") (PySem.Str.ofString "is_true_at") stm_is_true_at fa fd) : FnOk P w K mg base (L2.CX P w) (n + 1) fa fd [PySem.Str.ofString "saying", PySem.Str.ofString "given"] (spF ⟨K, mg⟩ (runFn fn_is_true_at (callN Γ n))) :=
  fn_sound F sc_is_true_at rfl rfl fun cdv A outer s H E β hr => by
    have hu := hu_of hr
    have nd := sc_is_true_at.nd
    have tk : ∀ σ, PassesAt (L2.CX P w) (cxOf (L2.CX P w) P w K mg base N_is_true_at (PySem.Str.ofString "is_true_at") (defScope stm_is_true_at) fa cdv A outer s H E) σ (WE (WB.w (wOf E β)) σ) := fun σ => passAt (takes_of rfl rfl rfl rfl) σ
    exact (xscons (xifs (xtval (xcall (f := "is_atom") T hr tk rfl [false] rfl (xcons (xv _ _ 0) xnil))) (xsone (xret (xcall (f := "is_atom_true") T hr tk rfl [false, false] rfl (xcons (xv _ _ 0) (xcons (xv _ _ 1) xnil))))) xsnil)
      (xscons (xsetlc (i := 2) rfl nd rfl rfl (sw_true rfl rfl rfl (by decide +kernel)) (xival (xcall (f := "inner_parts") T hr tk rfl [false] rfl (xcons (xv _ _ 0) xnil))) (own := [("part", 3)]) (blkOk_by (own := [("part", 3)]) (N := N_is_true_at) (sc := defScope stm_is_true_at) (by decide +kernel)) (fun _ _ _ _ _ => (gname (i := 3) nd rfl (.inl rfl))) (fun _ _ _ _ _ => xcyes) (fun _ _ _ _ _ => (xcall (f := "is_true_at") T (by exact hr) (by exact fun σ => passF σ) rfl [false, false] rfl (xcons (xv _ _ 3) (xcons (xv _ _ 1) xnil)))) (wp_name (by decide)) gm_name)
      (xscons (xifs (xtcmp (op_eqD hr.units) s_eq (xix _ (xv _ _ 0) xint (fun _ _ => rfl)) xstr (nomark _)) (xsone (xret (xnot (xix _ (xv _ _ 2) xint (fun _ _ => rfl))))) xsnil)
      (xsone (xret (xif (xtcmp (op_eqD hr.units) s_eq (xix _ (xv _ _ 0) xint (fun _ _ => rfl)) xstr (nomark _)) (xb (cr_all rfl) s_all rfl B.all (by decide +kernel) (xcons (xv _ _ 2) xnil)) (xb (cr_any rfl) s_any rfl B.any (by decide +kernel) (xcons (xv _ _ 2) xnil))))))))
theorem sc_check_numbers : FnScope N_check_numbers [PySem.Str.ofString "saying", PySem.Str.ofString "numbers"] (defScope stm_check_numbers) := ⟨rfl, rfl, rfl, by decide +kernel, rfl, by decide +kernel, by decide +kernel⟩
theorem dv_check_numbers (B : Bn mg) (C : Cn K w mg) (T : Tb Γ P w K mg base n) {fa : Addr} {fd : FuncData} (F : Fun K (PySem.Str.ofString "check_numbers") (PySem.Str.ofString "check_numbers") stm_check_numbers fa fd) : FnOk P w K mg base (L2.CX P w) (n + 1) fa fd [PySem.Str.ofString "saying", PySem.Str.ofString "numbers"] (spF ⟨K, mg⟩ (runFn fn_check_numbers (callN Γ n))) :=
  fn_sound F sc_check_numbers rfl rfl fun cdv A outer s H E β hr => by
    have hu := hu_of hr
    have nd := sc_check_numbers.nd
    have tk : ∀ σ, PassesAt (L2.CX P w) (cxOf (L2.CX P w) P w K mg base N_check_numbers (PySem.Str.ofString "check_numbers") (defScope stm_check_numbers) fa cdv A outer s H E) σ (WE (WB.w (wOf E β)) σ) := fun σ => passAt (takes_of rfl rfl rfl rfl) σ
    exact (xscons (xifs (xwt (xwor (xtnot (xtval (xisi _ (k := .tuple) (xv _ _ 1) (by decide +kernel) rfl B.isinstance rfl B.tuple))) (xwor1 (xtcmp (op_neD hr.units) s_ne (xb call_lenA s_len rfl B.len (by decide +kernel) (xcons (xv _ _ 1) xnil)) (xb call_lenA s_len rfl B.len (by decide +kernel) (xcons (xcall (f := "free_of") T hr tk rfl [false] rfl (xcons (xv _ _ 0) xnil)) xnil)) (nomark _))))) (xsone xnever) xsnil)
      (xsone (xifs (xtnot (xtval (xb (cr_all rfl) s_all rfl B.all (by decide +kernel) (xcons (xlc rfl nd (xival (xv _ _ 1)) (own := [("x", 2)]) (blkOk_by (own := [("x", 2)]) (N := N_check_numbers) (sc := defScope stm_check_numbers) (by decide +kernel)) (fun _ _ _ _ _ => (gname (i := 2) nd rfl (.inl rfl))) (fun _ _ _ _ _ => xcyes) (fun _ _ _ _ _ => (xcall (f := "is_fraction") T (by exact hr) (by exact fun σ => passF σ) rfl [false] rfl (xcons (xv _ _ 2) xnil))) (wp_name (by decide)) gm_name) xnil)))) (xsone xnever) xsnil)))
theorem sc_true_at : FnScope N_true_at [PySem.Str.ofString "saying", PySem.Str.ofString "numbers"] (defScope stm_true_at) := ⟨rfl, rfl, rfl, by decide +kernel, rfl, by decide +kernel, by decide +kernel⟩
theorem dv_true_at (B : Bn mg) (C : Cn K w mg) (T : Tb Γ P w K mg base n) {fa : Addr} {fd : FuncData} (F : Fun K (PySem.Str.ofString "true_at") (PySem.Str.ofString "true_at") stm_true_at fa fd) : FnOk P w K mg base (L2.CX P w) (n + 1) fa fd [PySem.Str.ofString "saying", PySem.Str.ofString "numbers"] (spF ⟨K, mg⟩ (runFn fn_true_at (callN Γ n))) :=
  fn_sound F sc_true_at rfl rfl fun cdv A outer s H E β hr => by
    have hu := hu_of hr
    have nd := sc_true_at.nd
    have tk : ∀ σ, PassesAt (L2.CX P w) (cxOf (L2.CX P w) P w K mg base N_true_at (PySem.Str.ofString "true_at") (defScope stm_true_at) fa cdv A outer s H E) σ (WE (WB.w (wOf E β)) σ) := fun σ => passAt (takes_of rfl rfl rfl rfl) σ
    exact (xscons (xdrop (xcall (f := "check_saying") T hr tk rfl [false] rfl (xcons (xv _ _ 0) xnil)))
      (xscons (xifs (xtnot (xtval (xcall (f := "is_plain") T hr tk rfl [false] rfl (xcons (xv _ _ 0) xnil)))) (xsone xnever) xsnil)
      (xscons (xdrop (xcall (f := "check_numbers") T hr tk rfl [false, false] rfl (xcons (xv _ _ 0) (xcons (xv _ _ 1) xnil))))
      (xsone (xret (xcall (f := "is_true_at") T hr tk rfl [false, false] rfl (xcons (xv _ _ 0) (xcons (xdzip rfl rfl B.dict rfl B.zip (xcons (xcall (f := "free_of") T hr tk rfl [false] rfl (xcons (xv _ _ 0) xnil)) (xcons (xv _ _ 1) xnil))) xnil))))))))
theorem sc__law_begin : FnScope N__law_begin [PySem.Str.ofString "script", PySem.Str.ofString "place"] (defScope stm__law_begin) := ⟨rfl, rfl, rfl, by decide +kernel, rfl, by decide +kernel, by decide +kernel⟩
theorem dv__law_begin (B : Bn mg) (C : Cn K w mg) (T : Tb Γ P w K mg base n) {fa : Addr} {fd : FuncData} (F : Fun K (PySem.Str.ofString "_law_begin") (PySem.Str.ofString "_law_begin") stm__law_begin fa fd) : FnOk P w K mg base (L2.CX P w) (n + 1) fa fd [PySem.Str.ofString "script", PySem.Str.ofString "place"] (spF ⟨K, mg⟩ (runFn fn__law_begin (callN Γ n))) :=
  fn_sound F sc__law_begin rfl rfl fun cdv A outer s H E β hr => by
    have hu := hu_of hr
    have nd := sc__law_begin.nd
    have tk : ∀ σ, PassesAt (L2.CX P w) (cxOf (L2.CX P w) P w K mg base N__law_begin (PySem.Str.ofString "_law_begin") (defScope stm__law_begin) fa cdv A outer s H E) σ (WE (WB.w (wOf E β)) σ) := fun σ => passAt (takes_of rfl rfl rfl rfl) σ
    exact (xscons (xset (i := 2) nd rfl (.inl rfl) (xop op_addA s_add (xop op_addA s_add xint (xop op_mulA s_mul xint (xv _ _ 1))) (xb call_lenA s_len rfl B.len (by decide +kernel) (xcons (xv _ _ 0) xnil))))
      (xscons (xfor (passes_of rfl) rfl (xival (xsl (xv _ _ 0) (xpnone _) (xpsome xint))) (gname (i := 3) nd rfl (.inl rfl)) (xsone (xset (i := 2) nd rfl (.inl rfl) (xop op_modN s_mod (xty call_int1 s_int1 rfl B.int (by decide +kernel) (xcons (xop op_addA s_add (xop op_addA s_add (xop op_mulA s_mul (xv _ _ 2) xint) (xop op_mulA s_mul (xv _ _ 3) xint)) xint) xnil)) xint))))
      (xscons (xset (i := 3) nd rfl (.inl rfl) (xif (xtcmp op_lt s_lt (xv _ _ 1) (xb call_lenA s_len rfl B.len (by decide +kernel) (xcons (xv _ _ 0) xnil)) (nomark _)) (xty call_int1 s_int1 rfl B.int (by decide +kernel) (xcons (xix _ (xv _ _ 0) (xv _ _ 1) (fun _ _ => rfl)) xnil)) xint))
      (xsone (xret (xlst (xcons (xb (call_max2 rfl) s_max2 rfl B.max (by decide +kernel) (xcons xint (xcons (xop op_sub s_sub (xb call_abs s_abs rfl B.abs (by decide +kernel) (xcons (xv _ _ 3) xnil)) (xop op_powX s_powX xint xint)) xnil))) (xcons (xv _ _ 2) (xcons xint xnil)))))))))
theorem sc__law_tens : FnScope N__law_tens [PySem.Str.ofString "many"] (defScope stm__law_tens) := ⟨rfl, rfl, rfl, by decide +kernel, rfl, by decide +kernel, by decide +kernel⟩
theorem dv__law_tens (B : Bn mg) (C : Cn K w mg) (T : Tb Γ P w K mg base n) {fa : Addr} {fd : FuncData} (F : Fun K (PySem.Str.ofString "_law_tens") (PySem.Str.ofString "_law_tens") stm__law_tens fa fd) : FnOk P w K mg base (L2.CX P w) (n + 1) fa fd [PySem.Str.ofString "many"] (spF ⟨K, mg⟩ (runFn fn__law_tens (callN Γ n))) :=
  fn_sound F sc__law_tens rfl rfl fun cdv A outer s H E β hr => by
    have hu := hu_of hr
    have nd := sc__law_tens.nd
    have tk : ∀ σ, PassesAt (L2.CX P w) (cxOf (L2.CX P w) P w K mg base N__law_tens (PySem.Str.ofString "_law_tens") (defScope stm__law_tens) fa cdv A outer s H E) σ (WE (WB.w (wOf E β)) σ) := fun σ => passAt (takes_of rfl rfl rfl rfl) σ
    exact (xscons (xset (i := 1) nd rfl (.inl rfl) xint)
      (xscons (xfor (passes_of rfl) rfl (xirng1 rfl B.range (xcons (xv _ _ 0) xnil)) (gname (i := 2) nd rfl (.inl rfl)) (xsone (xset (i := 1) nd rfl (.inl rfl) (xop op_mulA s_mul (xv _ _ 1) xint))))
      (xsone (xret (xv _ _ 1)))))
theorem sc__law_pick : FnScope N__law_pick [PySem.Str.ofString "source", PySem.Str.ofString "many"] (defScope stm__law_pick) := ⟨rfl, rfl, rfl, by decide +kernel, rfl, by decide +kernel, by decide +kernel⟩
theorem dv__law_pick (B : Bn mg) (C : Cn K w mg) (T : Tb Γ P w K mg base n) {fa : Addr} {fd : FuncData} (F : Fun K (PySem.Str.ofString "_law_pick") (PySem.Str.ofString "_law_pick") stm__law_pick fa fd) : FnOk P w K mg base (L2.CX P w) (n + 1) fa fd [PySem.Str.ofString "source", PySem.Str.ofString "many"] (spF ⟨K, mg⟩ (runFn fn__law_pick (callN Γ n))) :=
  fn_sound F sc__law_pick rfl rfl fun cdv A outer s H E β hr => by
    have hu := hu_of hr
    have nd := sc__law_pick.nd
    have tk : ∀ σ, PassesAt (L2.CX P w) (cxOf (L2.CX P w) P w K mg base N__law_pick (PySem.Str.ofString "_law_pick") (defScope stm__law_pick) fa cdv A outer s H E) σ (WE (WB.w (wOf E β)) σ) := fun σ => passAt (takes_of rfl rfl rfl rfl) σ
    exact (xscons (xifs (xtcmp op_gt s_gt (xix _ (xv _ _ 0) xint (fun _ _ => rfl)) xint (nomark _)) (xscons (xset (i := 2) nd rfl (.inl rfl) (xop op_modN s_mod (xty call_int1 s_int1 rfl B.int (by decide +kernel) (xcons (xix _ (xv _ _ 0) xint (fun _ _ => rfl)) xnil)) (xv _ _ 1)))
      (xscons (xstl (pg_sub (xv _ _ 0) xint set_list) (xop op_fdivX s_fdiv (xix _ (xv _ _ 0) xint (fun _ _ => rfl)) (xv _ _ 1)))
      (xsone (xret (xv _ _ 2))))) xsnil)
      (xscons (xstl (pg_sub (xv _ _ 0) xint set_list) (xop op_addA s_add (xix _ (xv _ _ 0) xint (fun _ _ => rfl)) xint))
      (xscons (xset (i := 3) nd rfl (.inl rfl) (xop op_modN s_mod (xty call_int1 s_int1 rfl B.int (by decide +kernel) (xcons (xop op_addA s_add (xop op_powX s_powX (xop op_addA s_add (xix _ (xv _ _ 0) xint (fun _ _ => rfl)) (xop op_mulA s_mul xint (xix _ (xv _ _ 0) xint (fun _ _ => rfl)))) xint) (xix _ (xv _ _ 0) xint (fun _ _ => rfl))) xnil)) xint))
      (xscons (xset (i := 3) nd rfl (.inl rfl) (xop op_modN s_mod (xty call_int1 s_int1 rfl B.int (by decide +kernel) (xcons (xop op_addA s_add (xop op_addA s_add (xop op_powX s_powX (xv _ _ 3) xint) (xix _ (xv _ _ 0) xint (fun _ _ => rfl))) xint) xnil)) xint))
      (xsone (xret (xop op_modN s_mod (xty call_int1 s_int1 rfl B.int (by decide +kernel) (xcons (xop op_fdivX s_fdiv (xv _ _ 3) xint) xnil)) (xv _ _ 1))))))))
theorem sc__law_same : FnScope N__law_same [PySem.Str.ofString "told", PySem.Str.ofString "due"] (defScope stm__law_same) := ⟨rfl, rfl, rfl, by decide +kernel, rfl, by decide +kernel, by decide +kernel⟩
theorem dv__law_same (B : Bn mg) (C : Cn K w mg) (T : Tb Γ P w K mg base n) {fa : Addr} {fd : FuncData} (F : Fun K (PySem.Str.ofString "_law_same") (PySem.Str.ofString "_law_same") stm__law_same fa fd) : FnOk P w K mg base (L2.CX P w) (n + 1) fa fd [PySem.Str.ofString "told", PySem.Str.ofString "due"] (spF ⟨K, mg⟩ (runFn fn__law_same (callN Γ n))) :=
  fn_sound F sc__law_same rfl rfl fun cdv A outer s H E β hr => by
    have hu := hu_of hr
    have nd := sc__law_same.nd
    have tk : ∀ σ, PassesAt (L2.CX P w) (cxOf (L2.CX P w) P w K mg base N__law_same (PySem.Str.ofString "_law_same") (defScope stm__law_same) fa cdv A outer s H E) σ (WE (WB.w (wOf E β)) σ) := fun σ => passAt (takes_of rfl rfl rfl rfl) σ
    exact (xscons (xifs (xtcmp op_isN s_is (xv _ _ 1) xnon (nomark _)) (xsone (xret (xcmp op_isN s_is (xv _ _ 0) xnon (nomark _)))) xsnil)
      (xscons (xifs (xtval (xisi _ (k := .bool) (xv _ _ 1) (by decide +kernel) rfl B.isinstance rfl B.bool)) (xsone (xret (xand (xisi _ (k := .bool) (xv _ _ 0) (by decide +kernel) rfl B.isinstance rfl B.bool) (xone (xcmp (op_eqD hr.units) s_eq (xv _ _ 0) (xv _ _ 1) (nomark _)))))) xsnil)
      (xscons (xifs (xtval (xisi _ (k := .int) (xv _ _ 1) (by decide +kernel) rfl B.isinstance rfl B.int)) (xsone (xret (xand (xisi _ (k := .int) (xv _ _ 0) (by decide +kernel) rfl B.isinstance rfl B.int) (xand (xnot (xisi _ (k := .bool) (xv _ _ 0) (by decide +kernel) rfl B.isinstance rfl B.bool)) (xone (xcmp (op_eqD hr.units) s_eq (xv _ _ 0) (xv _ _ 1) (nomark _))))))) xsnil)
      (xscons (xifs (xtval (xisi _ (k := .str) (xv _ _ 1) (by decide +kernel) rfl B.isinstance rfl B.str)) (xsone (xret (xand (xisi _ (k := .str) (xv _ _ 0) (by decide +kernel) rfl B.isinstance rfl B.str) (xone (xcmp (op_eqD hr.units) s_eq (xv _ _ 0) (xv _ _ 1) (nomark _)))))) xsnil)
      (xscons (xifs (xwt (xwor (xtcmp (op_neD hr.units) s_ne (xisi _ (k := .tuple) (xv _ _ 1) (by decide +kernel) rfl B.isinstance rfl B.tuple) (xisi _ (k := .tuple) (xv _ _ 0) (by decide +kernel) rfl B.isinstance rfl B.tuple) (nomark _)) (xwor1 (xtcmp (op_neD hr.units) s_ne (xisi _ (k := .list) (xv _ _ 1) (by decide +kernel) rfl B.isinstance rfl B.list) (xisi _ (k := .list) (xv _ _ 0) (by decide +kernel) rfl B.isinstance rfl B.list) (nomark _))))) (xsone (xret xbl)) xsnil)
      (xsone (xret (xand (xcmp (op_eqD hr.units) s_eq (xb call_lenA s_len rfl B.len (by decide +kernel) (xcons (xv _ _ 0) xnil)) (xb call_lenA s_len rfl B.len (by decide +kernel) (xcons (xv _ _ 1) xnil)) (nomark _)) (xone (xb (cr_all rfl) s_all rfl B.all (by decide +kernel) (xcons (xlc rfl nd (xirng1 rfl B.range (xcons (xb call_lenA s_len rfl B.len (by decide +kernel) (xcons (xv _ _ 1) xnil)) xnil)) (own := [("k", 2)]) (blkOk_by (own := [("k", 2)]) (N := N__law_same) (sc := defScope stm__law_same) (by decide +kernel)) (fun _ _ _ _ _ => (gname (i := 2) nd rfl (.inl rfl))) (fun _ _ _ _ _ => xcyes) (fun _ _ _ _ _ => (xcall (f := "_law_same") T (by exact hr) (by exact fun σ => passF σ) rfl [false, false] rfl (xcons (xix _ (xv _ _ 0) (xv _ _ 2) (fun _ _ => rfl)) (xcons (xix _ (xv _ _ 1) (xv _ _ 2) (fun _ _ => rfl)) xnil)))) (wp_name (by decide)) gm_name) xnil)))))))))))
theorem sc__law_frac : FnScope N__law_frac [PySem.Str.ofString "top", PySem.Str.ofString "bottom"] (defScope stm__law_frac) := ⟨rfl, rfl, rfl, by decide +kernel, rfl, by decide +kernel, by decide +kernel⟩
theorem dv__law_frac (B : Bn mg) (C : Cn K w mg) (T : Tb Γ P w K mg base n) {fa : Addr} {fd : FuncData} (F : Fun K (PySem.Str.ofString "_law_frac") (PySem.Str.ofString "_law_frac") stm__law_frac fa fd) : FnOk P w K mg base (L2.CX P w) (n + 1) fa fd [PySem.Str.ofString "top", PySem.Str.ofString "bottom"] (spF ⟨K, mg⟩ (runFn fn__law_frac (callN Γ n))) :=
  fn_sound F sc__law_frac rfl rfl fun cdv A outer s H E β hr => by
    have hu := hu_of hr
    have nd := sc__law_frac.nd
    have tk : ∀ σ, PassesAt (L2.CX P w) (cxOf (L2.CX P w) P w K mg base N__law_frac (PySem.Str.ofString "_law_frac") (defScope stm__law_frac) fa cdv A outer s H E) σ (WE (WB.w (wOf E β)) σ) := fun σ => passAt (takes_of rfl rfl rfl rfl) σ
    exact (xscons (xpar2 (i := 2) (j := 3) rfl nd rfl rfl (by decide) rfl rfl (xcons (xb call_abs s_abs rfl B.abs (by decide +kernel) (xcons (xv _ _ 0) xnil)) (xcons (xb call_abs s_abs rfl B.abs (by decide +kernel) (xcons (xv _ _ 1) xnil)) xnil)) (by rfl))
      (xscons (xwhile (passes_of rfl) (xtcmp op_gt s_gt (xv _ _ 3) xint (nomark _)) (xsone (xpar2 (i := 2) (j := 3) rfl nd rfl rfl (by decide) rfl rfl (xcons (xv _ _ 3) (xcons (xop op_modN s_mod (xty call_int1 s_int1 rfl B.int (by decide +kernel) (xcons (xv _ _ 2) xnil)) (xv _ _ 3)) xnil)) (by rfl))))
      (xscons (xset (i := 4) nd rfl (.inl rfl) (xif (xtcmp op_lt s_lt (xv _ _ 1) xint (nomark _)) (xun un_neg s_neg xint) xint))
      (xsone (xret (xtup (xcons (xop op_fdivX s_fdiv (xop op_mulA s_mul (xv _ _ 4) (xv _ _ 0)) (xv _ _ 2)) (xcons (xop op_fdivX s_fdiv (xop op_mulA s_mul (xv _ _ 4) (xv _ _ 1)) (xv _ _ 2)) xnil))))))))
theorem sc__law_sum : FnScope N__law_sum [PySem.Str.ofString "source", PySem.Str.ofString "size", PySem.Str.ofString "limit"] (defScope stm__law_sum) := ⟨rfl, rfl, rfl, by decide +kernel, rfl, by decide +kernel, by decide +kernel⟩
theorem dv__law_sum (B : Bn mg) (C : Cn K w mg) (T : Tb Γ P w K mg base n) {fa : Addr} {fd : FuncData} (F : Fun K (PySem.Str.ofString "_law_sum") (PySem.Str.ofString "_law_sum") stm__law_sum fa fd) : FnOk P w K mg base (L2.CX P w) (n + 1) fa fd [PySem.Str.ofString "source", PySem.Str.ofString "size", PySem.Str.ofString "limit"] (spF ⟨K, mg⟩ (runFn fn__law_sum (callN Γ n))) :=
  fn_sound F sc__law_sum rfl rfl fun cdv A outer s H E β hr => by
    have hu := hu_of hr
    have nd := sc__law_sum.nd
    have tk : ∀ σ, PassesAt (L2.CX P w) (cxOf (L2.CX P w) P w K mg base N__law_sum (PySem.Str.ofString "_law_sum") (defScope stm__law_sum) fa cdv A outer s H E) σ (WE (WB.w (wOf E β)) σ) := fun σ => passAt (takes_of rfl rfl rfl rfl) σ
    exact (xscons (xset (i := 3) nd rfl (.inl rfl) (xty call_tuple_of s_tuple rfl B.tuple (by decide +kernel) (xcons (xlc rfl nd (xirng1 rfl B.range (xcons xint xnil)) (own := [("at", 4)]) (blkOk_by (own := [("at", 4)]) (N := N__law_sum) (sc := defScope stm__law_sum) (by decide +kernel)) (fun _ _ _ _ _ => (gname (i := 4) nd rfl (.inl rfl))) (fun _ _ _ _ _ => xcyes) (fun _ _ _ _ _ => (xop op_mulA s_mul (xop op_sub s_sub (xcall (f := "_law_pick") T (by exact hr) (by exact fun σ => passF σ) rfl [true, false] rfl (xcons (xv _ _ 0) (xcons (xop op_addA s_add (xop op_mulA s_mul xint (xv _ _ 1)) xint) xnil))) (xv _ _ 1)) (xb (call_min2 rfl) s_min2 rfl B.min (by decide +kernel) (xcons xint (xcons (xcall (f := "_law_pick") T (by exact hr) (by exact fun σ => passF σ) rfl [true, false] rfl (xcons (xv _ _ 0) (xcons xint xnil))) xnil))))) (wp_name (by decide)) gm_name) xnil)))
      (xsone (xret (xtup (xcons (xix _ (xlst (xcons xstr (xcons xstr (xcons xstr xnil)))) (xcall (f := "_law_pick") T hr tk rfl [true, false] rfl (xcons (xv _ _ 0) (xcons xint xnil))) (fun _ _ => rfl)) (xcons (xv _ _ 3) (xcons (xop op_sub s_sub (xcall (f := "_law_pick") T hr tk rfl [true, false] rfl (xcons (xv _ _ 0) (xcons (xop op_addA s_add (xop op_mulA s_mul xint (xv _ _ 2)) xint) xnil))) (xv _ _ 2)) xnil)))))))
theorem sc__law_atom : FnScope N__law_atom [PySem.Str.ofString "source", PySem.Str.ofString "size", PySem.Str.ofString "limit"] (defScope stm__law_atom) := ⟨rfl, rfl, rfl, by decide +kernel, rfl, by decide +kernel, by decide +kernel⟩
theorem dv__law_atom (B : Bn mg) (C : Cn K w mg) (T : Tb Γ P w K mg base n) {fa : Addr} {fd : FuncData} (F : Fun K (PySem.Str.ofString "_law_atom") (PySem.Str.ofString "_law_atom") stm__law_atom fa fd) : FnOk P w K mg base (L2.CX P w) (n + 1) fa fd [PySem.Str.ofString "source", PySem.Str.ofString "size", PySem.Str.ofString "limit"] (spF ⟨K, mg⟩ (runFn fn__law_atom (callN Γ n))) :=
  fn_sound F sc__law_atom rfl rfl fun cdv A outer s H E β hr => by
    have hu := hu_of hr
    have nd := sc__law_atom.nd
    have tk : ∀ σ, PassesAt (L2.CX P w) (cxOf (L2.CX P w) P w K mg base N__law_atom (PySem.Str.ofString "_law_atom") (defScope stm__law_atom) fa cdv A outer s H E) σ (WE (WB.w (wOf E β)) σ) := fun σ => passAt (takes_of rfl rfl rfl rfl) σ
    exact (xscons (xset (i := 3) nd rfl (.inl rfl) (xcall (f := "_law_pick") T hr tk rfl [true, false] rfl (xcons (xv _ _ 0) (xcons xint xnil))))
      (xscons (xifs (xtcmp op_lt s_lt (xv _ _ 3) xint (nomark _)) (xsone (xret (xcall (f := "_law_sum") T hr tk rfl [true, false, false] rfl (xcons (xv _ _ 0) (xcons (xv _ _ 1) (xcons (xv _ _ 2) xnil)))))) xsnil)
      (xscons (xset (i := 4) nd rfl (.inl rfl) (xop op_addA s_add xint (xcall (f := "_law_pick") T hr tk rfl [true, false] rfl (xcons (xv _ _ 0) (xcons xint xnil)))))
      (xscons (xset (i := 5) nd rfl (.inl rfl) (xtup (xcons xstr (xcons (xcall (f := "_law_pick") T hr tk rfl [true, false] rfl (xcons (xv _ _ 0) (xcons xint xnil))) (xcons (xv _ _ 4) (xcons (xcall (f := "_law_pick") T hr tk rfl [true, false] rfl (xcons (xv _ _ 0) (xcons (xv _ _ 4) xnil))) xnil))))))
      (xsone (xret (xif (xtcmp (op_eqD hr.units) s_eq (xv _ _ 3) xint (nomark _)) (xv _ _ 5) (xtup (xcons xstr (xcons (xcall (f := "_law_pick") T hr tk rfl [true, false] rfl (xcons (xv _ _ 0) (xcons xint xnil))) xnil))))))))))
theorem sc__law_saying : FnScope N__law_saying [PySem.Str.ofString "source", PySem.Str.ofString "count", PySem.Str.ofString "tries", PySem.Str.ofString "size", PySem.Str.ofString "limit"] (defScope stm__law_saying) := ⟨rfl, rfl, rfl, by decide +kernel, rfl, by decide +kernel, by decide +kernel⟩
theorem dv__law_saying (B : Bn mg) (C : Cn K w mg) (T : Tb Γ P w K mg base n) {fa : Addr} {fd : FuncData} (F : Fun K (PySem.Str.ofString "_law_saying") (PySem.Str.ofString "_law_saying") stm__law_saying fa fd) : FnOk P w K mg base (L2.CX P w) (n + 1) fa fd [PySem.Str.ofString "source", PySem.Str.ofString "count", PySem.Str.ofString "tries", PySem.Str.ofString "size", PySem.Str.ofString "limit"] (spF ⟨K, mg⟩ (runFn fn__law_saying (callN Γ n))) :=
  fn_sound F sc__law_saying rfl rfl fun cdv A outer s H E β hr => by
    have hu := hu_of hr
    have nd := sc__law_saying.nd
    have tk : ∀ σ, PassesAt (L2.CX P w) (cxOf (L2.CX P w) P w K mg base N__law_saying (PySem.Str.ofString "_law_saying") (defScope stm__law_saying) fa cdv A outer s H E) σ (WE (WB.w (wOf E β)) σ) := fun σ => passAt (takes_of rfl rfl rfl rfl) σ
    exact (xscons (xifs (xtcmp (op_eqD hr.units) s_eq (xv _ _ 1) xint (nomark _)) (xsone (xret (xcall (f := "_law_atom") T hr tk rfl [true, false, false] rfl (xcons (xv _ _ 0) (xcons (xv _ _ 3) (xcons (xv _ _ 4) xnil)))))) xsnil)
      (xscons (xset (i := 5) nd rfl (.inl rfl) (xcall (f := "_law_pick") T hr tk rfl [true, false] rfl (xcons (xv _ _ 0) (xcons xint xnil))))
      (xscons (xifs (xwt (xwand (xtcmp op_lt s_lt (xv _ _ 5) xint (nomark _)) (xwand1 (xtcmp op_gt s_gt (xv _ _ 1) xint (nomark _))))) (xscons (xset (i := 6) nd rfl (.inl rfl) (xop op_addA s_add xint (xcall (f := "_law_pick") T hr tk rfl [true, false] rfl (xcons (xv _ _ 0) (xcons (xop op_sub s_sub (xv _ _ 1) xint) xnil)))))
      (xscons (xset (i := 7) nd rfl (.inl rfl) (xcall (f := "_law_saying") T hr tk rfl [true, false, false, false, false] rfl (xcons (xv _ _ 0) (xcons (xv _ _ 6) (xcons (xv _ _ 2) (xcons (xv _ _ 3) (xcons (xv _ _ 4) xnil)))))))
      (xscons (xset (i := 8) nd rfl (.inl rfl) (xcall (f := "_law_saying") T hr tk rfl [true, false, false, false, false] rfl (xcons (xv _ _ 0) (xcons (xop op_sub s_sub (xop op_sub s_sub (xv _ _ 1) xint) (xv _ _ 6)) (xcons (xv _ _ 2) (xcons (xv _ _ 3) (xcons (xv _ _ 4) xnil)))))))
      (xsone (xret (xtup (xcons (xix _ (xlst (xcons xstr (xcons xstr xnil))) (xcall (f := "_law_pick") T hr tk rfl [true, false] rfl (xcons (xv _ _ 0) (xcons xint xnil))) (fun _ _ => rfl)) (xcons (xv _ _ 7) (xcons (xv _ _ 8) xnil))))))))) xsnil)
      (xscons (xifs (xwt (xwand (xtcmp op_gt s_gt (xv _ _ 5) xint (nomark _)) (xwand1 (xtcmp op_gt s_gt (xix _ (xv _ _ 2) xint (fun _ _ => rfl)) xint (nomark _))))) (xscons xnever
      (xscons (xpar2 (i := 9) (j := 10) rfl nd rfl rfl (by decide) rfl rfl (xcons (xix _ (xlst (xcons xstr (xcons xstr xnil))) (xcall (f := "_law_pick") T hr tk rfl [true, false] rfl (xcons (xv _ _ 0) (xcons xint xnil))) (fun _ _ => rfl)) (xcons (xcall (f := "_law_pick") T hr tk rfl [true, false] rfl (xcons (xv _ _ 0) (xcons xint xnil))) xnil)) (by rfl))
      (xsone (xret (xtup (xcons (xv _ _ 9) (xcons (xv _ _ 10) (xcons (xcall (f := "_law_saying") T hr tk rfl [true, false, false, false, false] rfl (xcons (xv _ _ 0) (xcons (xop op_sub s_sub (xv _ _ 1) xint) (xcons (xv _ _ 2) (xcons (xv _ _ 3) (xcons (xv _ _ 4) xnil)))))) xnil)))))))) xsnil)
      (xsone (xret (xtup (xcons xstr (xcons (xcall (f := "_law_saying") T hr tk rfl [true, false, false, false, false] rfl (xcons (xv _ _ 0) (xcons (xop op_sub s_sub (xv _ _ 1) xint) (xcons (xv _ _ 2) (xcons (xv _ _ 3) (xcons (xv _ _ 4) xnil)))))) xnil)))))))))
theorem sc__law_inner : FnScope N__law_inner [PySem.Str.ofString "saying"] (defScope stm__law_inner) := ⟨rfl, rfl, rfl, by decide +kernel, rfl, by decide +kernel, by decide +kernel⟩
theorem dv__law_inner (B : Bn mg) (C : Cn K w mg) (T : Tb Γ P w K mg base n) {fa : Addr} {fd : FuncData} (F : Fun K (PySem.Str.ofString "_law_inner") (PySem.Str.ofString "_law_inner") stm__law_inner fa fd) : FnOk P w K mg base (L2.CX P w) (n + 1) fa fd [PySem.Str.ofString "saying"] (spF ⟨K, mg⟩ (runFn fn__law_inner (callN Γ n))) :=
  fn_sound F sc__law_inner rfl rfl fun cdv A outer s H E β hr => by
    have hu := hu_of hr
    have nd := sc__law_inner.nd
    have tk : ∀ σ, PassesAt (L2.CX P w) (cxOf (L2.CX P w) P w K mg base N__law_inner (PySem.Str.ofString "_law_inner") (defScope stm__law_inner) fa cdv A outer s H E) σ (WE (WB.w (wOf E β)) σ) := fun σ => passAt (takes_of rfl rfl rfl rfl) σ
    exact (xscons (xifs (xtcmp op_in_seq s_in (xix _ (xv _ _ 0) xint (fun _ _ => rfl)) (xtup (xcons xstr (xcons xstr (xcons xstr xnil)))) (by rfl)) (xsone (xret (xty call_list_of s_list rfl B.list (by decide +kernel) (xcons (xsl (xv _ _ 0) (xpsome xint) (xpnone _)) xnil)))) xsnil)
      (xsone (xret (xif (xtcmp op_in_seq s_in (xix _ (xv _ _ 0) xint (fun _ _ => rfl)) (xtup (xcons xstr (xcons xstr xnil))) (by rfl)) (xlst (xcons (xix _ (xv _ _ 0) xint (fun _ _ => rfl)) xnil)) (xlst xnil)))))
theorem sc__law_free : FnScope N__law_free [PySem.Str.ofString "saying"] (defScope stm__law_free) := ⟨rfl, rfl, rfl, by decide +kernel, rfl, by decide +kernel, by decide +kernel⟩
theorem dv__law_free (B : Bn mg) (C : Cn K w mg) (T : Tb Γ P w K mg base n) {fa : Addr} {fd : FuncData} (F : Fun K (PySem.Str.ofString "_law_free") (PySem.Str.ofString "_law_free") stm__law_free fa fd) : FnOk P w K mg base (L2.CX P w) (n + 1) fa fd [PySem.Str.ofString "saying"] (spF ⟨K, mg⟩ (runFn fn__law_free (callN Γ n))) :=
  fn_sound F sc__law_free rfl rfl fun cdv A outer s H E β hr => by
    have hu := hu_of hr
    have nd := sc__law_free.nd
    have tk : ∀ σ, PassesAt (L2.CX P w) (cxOf (L2.CX P w) P w K mg base N__law_free (PySem.Str.ofString "_law_free") (defScope stm__law_free) fa cdv A outer s H E) σ (WE (WB.w (wOf E β)) σ) := fun σ => passAt (takes_of rfl rfl rfl rfl) σ
    exact (xscons (xset (i := 1) nd rfl (.inl rfl) (xix _ (xv _ _ 0) xint (fun _ _ => rfl)))
      (xscons (xifs (xtcmp op_in_seq s_in (xv _ _ 1) (xtup (xcons xstr (xcons xstr (xcons xstr xnil)))) (by rfl)) (xsone (xret (xty call_tuple_of s_tuple rfl B.tuple (by decide +kernel) (xcons (xlc rfl nd (xirng1 rfl B.range (xcons xint xnil)) (own := [("i", 5)]) (blkOk_by (own := [("i", 5)]) (N := N__law_free) (sc := defScope stm__law_free) (by decide +kernel)) (fun _ _ _ _ _ => (gname (i := 5) nd rfl (.inl rfl))) (fun _ _ _ _ _ => (xcone (xtcmp (op_neD hr.units) s_ne (xix _ (xix _ (xv _ _ 0) xint (fun _ _ => rfl)) (xv _ _ 5) (fun _ _ => rfl)) xint (nomark _)))) (fun _ _ _ _ _ => (xv _ _ 5)) (wp_name (by decide)) gm_name) xnil)))) xsnil)
      (xscons (xifs (xtcmp op_in_seq s_in (xv _ _ 1) (xtup (xcons xstr (xcons xstr xnil))) (by rfl)) (xsone (xret (xtup (xcons (xix _ (xv _ _ 0) xint (fun _ _ => rfl)) xnil)))) xsnil)
      (xscons (xset (i := 2) nd rfl (.inr rfl) (xlst xnil))
      (xscons (xfor (passes_of rfl) rfl (xival (xcall (f := "_law_inner") T hr tk rfl [false] rfl (xcons (xv _ _ 0) xnil))) (gname (i := 3) nd rfl (.inl rfl)) (xsone (xset (i := 2) nd rfl (.inr rfl) (xop op_addA s_add (xv _ _ 2) (xty call_list_of s_list rfl B.list (by decide +kernel) (xcons (xcall (f := "_law_free") T hr tk rfl [false] rfl (xcons (xv _ _ 3) xnil)) xnil))))))
      (xscons (xset (i := 4) nd rfl (.inr rfl) (xif (xtcmp op_in_seq s_in (xv _ _ 1) (xtup (xcons xstr (xcons xstr xnil))) (by rfl)) (xix _ (xv _ _ 0) xint (fun _ _ => rfl)) (xun un_neg s_neg xint)))
      (xsone (xret (xty call_tuple_of s_tuple rfl B.tuple (by decide +kernel) (xcons (xlc rfl nd (xirng1 rfl B.range (xcons xint xnil)) (own := [("i", 5)]) (blkOk_by (own := [("i", 5)]) (N := N__law_free) (sc := defScope stm__law_free) (by decide +kernel)) (fun _ _ _ _ _ => (gname (i := 5) nd rfl (.inl rfl))) (fun _ _ _ _ _ => (xcone (xwt (xwand (xtcmp op_in_seq s_in (xv _ _ 5) (xv _ _ 2) (by rfl)) (xwand1 (xtcmp (op_neD hr.units) s_ne (xv _ _ 5) (xv _ _ 4) (nomark _))))))) (fun _ _ _ _ _ => (xv _ _ 5)) (wp_name (by decide)) gm_name) xnil))))))))))
theorem sc__law_holds : FnScope N__law_holds [PySem.Str.ofString "saying", PySem.Str.ofString "given"] (defScope stm__law_holds) := ⟨rfl, rfl, rfl, by decide +kernel, rfl, by decide +kernel, by decide +kernel⟩
theorem dv__law_holds (B : Bn mg) (C : Cn K w mg) (T : Tb Γ P w K mg base n) {fa : Addr} {fd : FuncData} (F : Fun K (PySem.Str.ofString "_law_holds") (PySem.Str.ofString "_law_holds") stm__law_holds fa fd) : FnOk P w K mg base (L2.CX P w) (n + 1) fa fd [PySem.Str.ofString "saying", PySem.Str.ofString "given"] (spF ⟨K, mg⟩ (runFn fn__law_holds (callN Γ n))) :=
  fn_sound F sc__law_holds rfl rfl fun cdv A outer s H E β hr => by
    have hu := hu_of hr
    have nd := sc__law_holds.nd
    have tk : ∀ σ, PassesAt (L2.CX P w) (cxOf (L2.CX P w) P w K mg base N__law_holds (PySem.Str.ofString "_law_holds") (defScope stm__law_holds) fa cdv A outer s H E) σ (WE (WB.w (wOf E β)) σ) := fun σ => passAt (takes_of rfl rfl rfl rfl) σ
    exact (xscons (xset (i := 2) nd rfl (.inl rfl) (xix _ (xv _ _ 0) xint (fun _ _ => rfl)))
      (xscons (xifs (xtcmp op_in_seq s_in (xv _ _ 2) (xtup (xcons xstr (xcons xstr (xcons xstr xnil)))) (by rfl)) (xscons (xsetlc (i := 3) rfl nd rfl rfl (sw_true rfl rfl rfl (by decide +kernel)) (xival (xsl (xv _ _ 0) (xpsome xint) (xpnone _))) (own := [("part", 9)]) (blkOk_by (own := [("part", 9)]) (N := N__law_holds) (sc := defScope stm__law_holds) (by decide +kernel)) (fun _ _ _ _ _ => (gname (i := 9) nd rfl (.inl rfl))) (fun _ _ _ _ _ => xcyes) (fun _ _ _ _ _ => (xcall (f := "_law_holds") T (by exact hr) (by exact fun σ => passF σ) rfl [false, false] rfl (xcons (xv _ _ 9) (xcons (xv _ _ 1) xnil)))) (wp_name (by decide)) gm_name)
      (xscons (xifs (xtcmp (op_eqD hr.units) s_eq (xv _ _ 2) xstr (nomark _)) (xsone (xret (xnot (xix _ (xv _ _ 3) xint (fun _ _ => rfl))))) xsnil)
      (xsone (xret (xif (xtcmp (op_eqD hr.units) s_eq (xv _ _ 2) xstr (nomark _)) (xand (xix _ (xv _ _ 3) xint (fun _ _ => rfl)) (xone (xix _ (xv _ _ 3) xint (fun _ _ => rfl)))) (xor (xix _ (xv _ _ 3) xint (fun _ _ => rfl)) (xone (xix _ (xv _ _ 3) xint (fun _ _ => rfl))))))))) xsnil)
      (xscons (xifs (xtcmp op_in_seq s_in (xv _ _ 2) (xtup (xcons xstr (xcons xstr xnil))) (by rfl)) (xscons (xset (i := 4) nd rfl (.inl rfl) (xix _ (xv _ _ 1) (xix _ (xv _ _ 0) xint (fun _ _ => rfl)) (fun _ _ => rfl)))
      (xsone (xret (xand (xcmp (op_eqD hr.units) s_eq (xix _ (xv _ _ 4) xint (fun _ _ => rfl)) xint (nomark _)) (xone (xor (xcmp (op_eqD hr.units) s_eq (xv _ _ 2) xstr (nomark _)) (xone (xcmp (op_eqD hr.units) s_eq (xop op_modN s_mod (xty call_int1 s_int1 rfl B.int (by decide +kernel) (xcons (xix _ (xv _ _ 4) xint (fun _ _ => rfl)) xnil)) (xix _ (xv _ _ 0) xint (fun _ _ => rfl))) (xix _ (xv _ _ 0) xint (fun _ _ => rfl)) (nomark _))))))))) xsnil)
      (xscons (xpar2 (i := 5) (j := 6) rfl nd rfl rfl (by decide) rfl rfl (xcons (xun un_neg s_neg (xix _ (xv _ _ 0) xint (fun _ _ => rfl))) (xcons xint xnil)) (by rfl))
      (xscons (xfor (passes_of rfl) rfl (xirng1 rfl B.range (xcons xint xnil)) (gname (i := 7) nd rfl (.inl rfl)) (xsone (xifs (xtcmp (op_neD hr.units) s_ne (xix _ (xix _ (xv _ _ 0) xint (fun _ _ => rfl)) (xv _ _ 7) (fun _ _ => rfl)) xint (nomark _)) (xscons (xset (i := 8) nd rfl (.inl rfl) (xix _ (xv _ _ 1) (xv _ _ 7) (fun _ _ => rfl)))
      (xsone (xpar2 (i := 5) (j := 6) rfl nd rfl rfl (by decide) rfl rfl (xcons (xop op_addA s_add (xop op_mulA s_mul (xv _ _ 5) (xix _ (xv _ _ 8) xint (fun _ _ => rfl))) (xop op_mulA s_mul (xop op_mulA s_mul (xix _ (xix _ (xv _ _ 0) xint (fun _ _ => rfl)) (xv _ _ 7) (fun _ _ => rfl)) (xix _ (xv _ _ 8) xint (fun _ _ => rfl))) (xv _ _ 6))) (xcons (xop op_mulA s_mul (xv _ _ 6) (xix _ (xv _ _ 8) xint (fun _ _ => rfl))) xnil)) (by rfl)))) xsnil)))
      (xscons (xifs (xtcmp (op_eqD hr.units) s_eq (xv _ _ 2) xstr (nomark _)) (xsone (xret (xcmp (op_eqD hr.units) s_eq (xv _ _ 5) xint (nomark _)))) xsnil)
      (xsone (xret (xor (xcmp op_lt s_lt (xv _ _ 5) xint (nomark _)) (xone (xand (xcmp (op_eqD hr.units) s_eq (xv _ _ 2) xstr (nomark _)) (xone (xcmp (op_eqD hr.units) s_eq (xv _ _ 5) xint (nomark _))))))))))))))
theorem sc__law_number : FnScope N__law_number [PySem.Str.ofString "source"] (defScope stm__law_number) := ⟨rfl, rfl, rfl, by decide +kernel, rfl, by decide +kernel, by decide +kernel⟩
theorem dv__law_number (B : Bn mg) (C : Cn K w mg) (T : Tb Γ P w K mg base n) {fa : Addr} {fd : FuncData} (F : Fun K (PySem.Str.ofString "_law_number") (PySem.Str.ofString "_law_number") stm__law_number fa fd) : FnOk P w K mg base (L2.CX P w) (n + 1) fa fd [PySem.Str.ofString "source"] (spF ⟨K, mg⟩ (runFn fn__law_number (callN Γ n))) :=
  fn_sound F sc__law_number rfl rfl fun cdv A outer s H E β hr => by
    have hu := hu_of hr
    have nd := sc__law_number.nd
    have tk : ∀ σ, PassesAt (L2.CX P w) (cxOf (L2.CX P w) P w K mg base N__law_number (PySem.Str.ofString "_law_number") (defScope stm__law_number) fa cdv A outer s H E) σ (WE (WB.w (wOf E β)) σ) := fun σ => passAt (takes_of rfl rfl rfl rfl) σ
    exact (xscons (xset (i := 1) nd rfl (.inl rfl) (xcall (f := "_law_pick") T hr tk rfl [true, false] rfl (xcons (xv _ _ 0) (xcons xint xnil))))
      (xscons (xifs (xtcmp op_lt s_lt (xv _ _ 1) xint (nomark _)) (xsone (xret (xtup (xcons (xop op_sub s_sub (xcall (f := "_law_pick") T hr tk rfl [true, false] rfl (xcons (xv _ _ 0) (xcons xint xnil))) xint) (xcons xint xnil))))) xsnil)
      (xscons (xifs (xtcmp op_lt s_lt (xv _ _ 1) xint (nomark _)) (xsone (xret (xcall (f := "_law_frac") T hr tk rfl [false, false] rfl (xcons (xop op_sub s_sub (xcall (f := "_law_pick") T hr tk rfl [true, false] rfl (xcons (xv _ _ 0) (xcons xint xnil))) xint) (xcons (xop op_addA s_add xint (xcall (f := "_law_pick") T hr tk rfl [true, false] rfl (xcons (xv _ _ 0) (xcons xint xnil)))) xnil))))) xsnil)
      (xscons (xifs (xtcmp (op_eqD hr.units) s_eq (xv _ _ 1) xint (nomark _)) (xsone (xret (xcall (f := "_law_frac") T hr tk rfl [false, false] rfl (xcons (xop op_sub s_sub (xcall (f := "_law_pick") T hr tk rfl [true, false] rfl (xcons (xv _ _ 0) (xcons (xop op_addA s_add (xop op_mulA s_mul xint (xop op_powX s_powX xint xint)) xint) xnil))) (xop op_powX s_powX xint xint)) (xcons (xop op_addA s_add xint (xcall (f := "_law_pick") T hr tk rfl [true, false] rfl (xcons (xv _ _ 0) (xcons xint xnil)))) xnil))))) xsnil)
      (xsone (xret (xcall (f := "_law_frac") T hr tk rfl [false, false] rfl (xcons (xop op_sub s_sub (xcall (f := "_law_pick") T hr tk rfl [true, false] rfl (xcons (xv _ _ 0) (xcons (xop op_addA s_add (xop op_mulA s_mul xint (xop op_powX s_powX xint xint)) xint) xnil))) (xop op_powX s_powX xint xint)) (xcons (xop op_addA s_add xint (xcall (f := "_law_pick") T hr tk rfl [true, false] rfl (xcons (xv _ _ 0) (xcons (xop op_powX s_powX xint xint) xnil)))) xnil)))))))))
theorem sc__law_sums : FnScope N__law_sums [PySem.Str.ofString "saying"] (defScope stm__law_sums) := ⟨rfl, rfl, rfl, by decide +kernel, rfl, by decide +kernel, by decide +kernel⟩
theorem dv__law_sums (B : Bn mg) (C : Cn K w mg) (T : Tb Γ P w K mg base n) {fa : Addr} {fd : FuncData} (F : Fun K (PySem.Str.ofString "_law_sums") (PySem.Str.ofString "_law_sums") stm__law_sums fa fd) : FnOk P w K mg base (L2.CX P w) (n + 1) fa fd [PySem.Str.ofString "saying"] (spF ⟨K, mg⟩ (runFn fn__law_sums (callN Γ n))) :=
  fn_sound F sc__law_sums rfl rfl fun cdv A outer s H E β hr => by
    have hu := hu_of hr
    have nd := sc__law_sums.nd
    have tk : ∀ σ, PassesAt (L2.CX P w) (cxOf (L2.CX P w) P w K mg base N__law_sums (PySem.Str.ofString "_law_sums") (defScope stm__law_sums) fa cdv A outer s H E) σ (WE (WB.w (wOf E β)) σ) := fun σ => passAt (takes_of rfl rfl rfl rfl) σ
    exact (xscons (xifs (xtcmp op_in_seq s_in (xix _ (xv _ _ 0) xint (fun _ _ => rfl)) (xtup (xcons xstr (xcons xstr (xcons xstr xnil)))) (by rfl)) (xsone (xret (xif (xtcmp (op_neD hr.units) s_ne (xcall (f := "_law_free") T hr tk rfl [false] rfl (xcons (xv _ _ 0) xnil)) (xtup xnil) (nomark _)) (xlst (xcons (xv _ _ 0) xnil)) (xlst xnil)))) xsnil)
      (xscons (xset (i := 1) nd rfl (.inl rfl) (xlst xnil))
      (xscons (xfor (passes_of rfl) rfl (xival (xcall (f := "_law_inner") T hr tk rfl [false] rfl (xcons (xv _ _ 0) xnil))) (gname (i := 2) nd rfl (.inl rfl)) (xsone (xset (i := 1) nd rfl (.inl rfl) (xop op_addA s_add (xv _ _ 1) (xcall (f := "_law_sums") T hr tk rfl [false] rfl (xcons (xv _ _ 2) xnil))))))
      (xsone (xret (xv _ _ 1))))))
theorem sc__law_small : FnScope N__law_small [PySem.Str.ofString "source"] (defScope stm__law_small) := ⟨rfl, rfl, rfl, by decide +kernel, rfl, by decide +kernel, by decide +kernel⟩
theorem dv__law_small (B : Bn mg) (C : Cn K w mg) (T : Tb Γ P w K mg base n) {fa : Addr} {fd : FuncData} (F : Fun K (PySem.Str.ofString "_law_small") (PySem.Str.ofString "_law_small") stm__law_small fa fd) : FnOk P w K mg base (L2.CX P w) (n + 1) fa fd [PySem.Str.ofString "source"] (spF ⟨K, mg⟩ (runFn fn__law_small (callN Γ n))) :=
  fn_sound F sc__law_small rfl rfl fun cdv A outer s H E β hr => by
    have hu := hu_of hr
    have nd := sc__law_small.nd
    have tk : ∀ σ, PassesAt (L2.CX P w) (cxOf (L2.CX P w) P w K mg base N__law_small (PySem.Str.ofString "_law_small") (defScope stm__law_small) fa cdv A outer s H E) σ (WE (WB.w (wOf E β)) σ) := fun σ => passAt (takes_of rfl rfl rfl rfl) σ
    exact (xsone (xret (xcall (f := "_law_frac") T hr tk rfl [false, false] rfl (xcons (xop op_sub s_sub (xcall (f := "_law_pick") T hr tk rfl [true, false] rfl (xcons (xv _ _ 0) (xcons xint xnil))) xint) (xcons (xop op_addA s_add xint (xcall (f := "_law_pick") T hr tk rfl [true, false] rfl (xcons (xv _ _ 0) (xcons xint xnil)))) xnil)))))
theorem sc__law_on_line : FnScope N__law_on_line [PySem.Str.ofString "source", PySem.Str.ofString "atom"] (defScope stm__law_on_line) := ⟨rfl, rfl, rfl, by decide +kernel, rfl, by decide +kernel, by decide +kernel⟩
theorem dv__law_on_line (B : Bn mg) (C : Cn K w mg) (T : Tb Γ P w K mg base n) {fa : Addr} {fd : FuncData} (F : Fun K (PySem.Str.ofString "_law_on_line") (PySem.Str.ofString "_law_on_line") stm__law_on_line fa fd) : FnOk P w K mg base (L2.CX P w) (n + 1) fa fd [PySem.Str.ofString "source", PySem.Str.ofString "atom"] (spF ⟨K, mg⟩ (runFn fn__law_on_line (callN Γ n))) :=
  fn_sound F sc__law_on_line rfl rfl fun cdv A outer s H E β hr => by
    have hu := hu_of hr
    have nd := sc__law_on_line.nd
    have tk : ∀ σ, PassesAt (L2.CX P w) (cxOf (L2.CX P w) P w K mg base N__law_on_line (PySem.Str.ofString "_law_on_line") (defScope stm__law_on_line) fa cdv A outer s H E) σ (WE (WB.w (wOf E β)) σ) := fun σ => passAt (takes_of rfl rfl rfl rfl) σ
    exact (xscons (xpar2 (i := 2) (j := 3) rfl nd rfl rfl (by decide) rfl rfl (xcons (xlc rfl nd (xirng1 rfl B.range (xcons xint xnil)) (own := [("i", 4)]) (blkOk_by (own := [("i", 4)]) (N := N__law_on_line) (sc := defScope stm__law_on_line) (by decide +kernel)) (fun _ _ _ _ _ => (gname (i := 4) nd rfl (.inl rfl))) (fun _ _ _ _ _ => xcyes) (fun _ _ _ _ _ => (xcall (f := "_law_small") T (by exact hr) (by exact fun σ => passF σ) rfl [true] rfl (xcons (xv _ _ 0) xnil))) (wp_name (by decide)) gm_name) (xcons (xcall (f := "_law_free") T hr tk rfl [false] rfl (xcons (xv _ _ 1) xnil)) xnil)) (by rfl))
      (xscons (xset (i := 4) nd rfl (.inl rfl) (xix _ (xv _ _ 3) (xcall (f := "_law_pick") T hr tk rfl [true, false] rfl (xcons (xv _ _ 0) (xcons (xb call_lenA s_len rfl B.len (by decide +kernel) (xcons (xv _ _ 3) xnil)) xnil))) (fun _ _ => rfl)))
      (xscons (xpar2 (i := 5) (j := 6) rfl nd rfl rfl (by decide) rfl rfl (xcons (xix _ (xv _ _ 1) xint (fun _ _ => rfl)) (xcons xint xnil)) (by rfl))
      (xscons (xfor (passes_of rfl) rfl (xival (xv _ _ 3)) (gname (i := 7) nd rfl (.inl rfl)) (xsone (xifs (xtcmp (op_neD hr.units) s_ne (xv _ _ 7) (xv _ _ 4) (nomark _)) (xscons (xset (i := 5) nd rfl (.inl rfl) (xop op_sub s_sub (xop op_mulA s_mul (xv _ _ 5) (xix _ (xix _ (xv _ _ 2) (xv _ _ 7) (fun _ _ => rfl)) xint (fun _ _ => rfl))) (xop op_mulA s_mul (xop op_mulA s_mul (xix _ (xix _ (xv _ _ 1) xint (fun _ _ => rfl)) (xv _ _ 7) (fun _ _ => rfl)) (xix _ (xix _ (xv _ _ 2) (xv _ _ 7) (fun _ _ => rfl)) xint (fun _ _ => rfl))) (xv _ _ 6))))
      (xsone (xset (i := 6) nd rfl (.inl rfl) (xop op_mulA s_mul (xv _ _ 6) (xix _ (xix _ (xv _ _ 2) (xv _ _ 7) (fun _ _ => rfl)) xint (fun _ _ => rfl)))))) xsnil)))
      (xscons (xpar2 (i := 8) (j := 9) rfl nd rfl rfl (by decide) rfl rfl (xcons (xop op_sub s_sub (xcall (f := "_law_pick") T hr tk rfl [true, false] rfl (xcons (xv _ _ 0) (xcons xint xnil))) xint) (xcons (xcall (f := "_law_tens") T hr tk rfl [false] rfl (xcons (xop op_addA s_add xint (xcall (f := "_law_pick") T hr tk rfl [true, false] rfl (xcons (xv _ _ 0) (xcons xint xnil)))) xnil)) xnil)) (by rfl))
      (xscons (xstl (pg_sub (xv _ _ 2) (xv _ _ 4) set_list) (xcall (f := "_law_frac") T hr tk rfl [false, false] rfl (xcons (xop op_addA s_add (xop op_mulA s_mul (xv _ _ 5) (xv _ _ 9)) (xop op_mulA s_mul (xop op_mulA s_mul (xv _ _ 8) (xv _ _ 6)) (xix _ (xix _ (xv _ _ 1) xint (fun _ _ => rfl)) (xv _ _ 4) (fun _ _ => rfl)))) (xcons (xop op_mulA s_mul (xop op_mulA s_mul (xv _ _ 6) (xix _ (xix _ (xv _ _ 1) xint (fun _ _ => rfl)) (xv _ _ 4) (fun _ _ => rfl))) (xv _ _ 9)) xnil))))
      (xsone (xret (xv _ _ 2)))))))))
theorem sc_law : FnScope N_law [PySem.Str.ofString "script"] (defScope stm_law) := ⟨rfl, rfl, rfl, by decide +kernel, rfl, by decide +kernel, by decide +kernel⟩
theorem dv_law (B : Bn mg) (C : Cn K w mg) (T : Tb Γ P w K mg base n) {fa : Addr} {fd : FuncData} (F : Fun K (PySem.Str.ofString "law") (PySem.Str.ofString "law") stm_law fa fd) : FnOk P w K mg base (L2.CX P w) (n + 1) fa fd [PySem.Str.ofString "script"] (spF ⟨K, mg⟩ (runFn fn_law (callN Γ n))) :=
  fn_sound F sc_law rfl rfl fun cdv A outer s H E β hr => by
    have hu := hu_of hr
    have nd := sc_law.nd
    have tk : ∀ σ, PassesAt (L2.CX P w) (cxOf (L2.CX P w) P w K mg base N_law (PySem.Str.ofString "law") (defScope stm_law) fa cdv A outer s H E) σ (WE (WB.w (wOf E β)) σ) := fun σ => passAt (takes_of rfl rfl rfl rfl) σ
    exact (xscons (xfor (passes_of rfl) rfl (xirng1 rfl B.range (xcons (xb (call_max2 rfl) s_max2 rfl B.max (by decide +kernel) (xcons xint (xcons (xb (call_min2 rfl) s_min2 rfl B.min (by decide +kernel) (xcons xint (xcons (xb call_lenA s_len rfl B.len (by decide +kernel) (xcons (xv _ _ 0) xnil)) xnil))) xnil))) xnil)) (gname (i := 1) nd rfl (.inl rfl)) (xscons (xset (i := 2) nd rfl (.inr rfl) (xcall (f := "_law_begin") T hr tk rfl [false, false] rfl (xcons (xv _ _ 0) (xcons (xv _ _ 1) xnil))))
      (xsone (xfor (passes_of rfl) rfl (xirng1 rfl B.range (xcons xint xnil)) (gname (i := 3) nd rfl (.inl rfl)) (xscons (xset (i := 4) nd rfl (.inl rfl) (xcall (f := "_law_saying") T hr tk rfl [true, false, false, false, false] rfl (xcons (xv _ _ 2) (xcons (xop op_addA s_add xint (xcall (f := "_law_pick") T hr tk rfl [true, false] rfl (xcons (xv _ _ 2) (xcons xint xnil)))) (xcons (xlst (xcons xint xnil)) (xcons (xix _ (xlst (xcons xint (xcons xint (xcons xint xnil)))) (xcall (f := "_law_pick") T hr tk rfl [true, false] rfl (xcons (xv _ _ 2) (xcons xint xnil))) (fun _ _ => rfl)) (xcons xint xnil)))))))
      (xscons (xpar3 (i := 5) (j := 6) (l := 7) rfl nd rfl rfl rfl (by decide) (by decide) (by decide) rfl rfl rfl (xcons (xcall (f := "_law_free") T hr tk rfl [false] rfl (xcons (xv _ _ 4) xnil)) (xcons (xcall (f := "_law_sums") T hr tk rfl [false] rfl (xcons (xv _ _ 4) xnil)) (xcons (xlst xnil) xnil))) (by rfl))
      (xscons (xset (i := 8) nd rfl (.inl rfl) (xcall (f := "_law_atom") T hr tk rfl [true, false, false] rfl (xcons (xv _ _ 2) (xcons xint (xcons xint xnil)))))
      (xscons (xfor (passes_of rfl) rfl (xirng1 rfl B.range (xcons xint xnil)) (gname (i := 9) nd rfl (.inl rfl)) (xscons (xset (i := 10) nd rfl (.inr rfl) (xlc rfl nd (xirng1 rfl B.range (xcons xint xnil)) (own := [("i", 17)]) (blkOk_by (own := [("i", 17)]) (N := N_law) (sc := defScope stm_law) (by decide +kernel)) (fun _ _ _ _ _ => (gname (i := 17) nd rfl (.inl rfl))) (fun _ _ _ _ _ => xcyes) (fun _ _ _ _ _ => (xcall (f := "_law_number") T (by exact hr) (by exact fun σ => passF σ) rfl [true] rfl (xcons (xv _ _ 2) xnil))) (wp_name (by decide)) gm_name))
      (xscons (xifs (xwt (xwand (xtcmp op_lt s_lt (xv _ _ 9) xint (nomark _)) (xwand1 (xtcmp (op_neD hr.units) s_ne (xv _ _ 6) (xlst xnil) (nomark _))))) (xsone (xset (i := 10) nd rfl (.inr rfl) (xcall (f := "_law_on_line") T hr tk rfl [true, false] rfl (xcons (xv _ _ 2) (xcons (xix _ (xv _ _ 6) (xcall (f := "_law_pick") T hr tk rfl [true, false] rfl (xcons (xv _ _ 2) (xcons (xb call_lenA s_len rfl B.len (by decide +kernel) (xcons (xv _ _ 6) xnil)) xnil))) (fun _ _ => rfl)) xnil))))) xsnil)
      (xscons (xifs (xtcmp op_gt s_gt (xv _ _ 9) xint (nomark _)) (xsone (xset (i := 10) nd rfl (.inr rfl) (xlc rfl nd (xirng1 rfl B.range (xcons xint xnil)) (own := [("i", 17)]) (blkOk_by (own := [("i", 17)]) (N := N_law) (sc := defScope stm_law) (by decide +kernel)) (fun _ _ _ _ _ => (gname (i := 17) nd rfl (.inl rfl))) (fun _ _ _ _ _ => xcyes) (fun _ _ _ _ _ => (xtup (xcons (xop op_sub s_sub (xcall (f := "_law_pick") T (by exact hr) (by exact fun σ => passF σ) rfl [true, false] rfl (xcons (xv _ _ 2) (xcons xint xnil))) xint) (xcons xint xnil)))) (wp_name (by decide)) gm_name))) xsnil)
      (xscons (xpar2 (i := 11) (j := 12) rfl nd rfl rfl (by decide) rfl rfl (xcons (xty call_tuple_of s_tuple rfl B.tuple (by decide +kernel) (xcons (xlc rfl nd (xival (xv _ _ 5)) (own := [("i", 17)]) (blkOk_by (own := [("i", 17)]) (N := N_law) (sc := defScope stm_law) (by decide +kernel)) (fun _ _ _ _ _ => (gname (i := 17) nd rfl (.inl rfl))) (fun _ _ _ _ _ => xcyes) (fun _ _ _ _ _ => (xix _ (xv _ _ 10) (xv _ _ 17) (fun _ _ => rfl))) (wp_name (by decide)) gm_name) xnil)) (xcons (xcall (f := "_law_holds") T hr tk rfl [false, false] rfl (xcons (xv _ _ 4) (xcons (xv _ _ 10) xnil))) xnil)) (by rfl))
      (xscons (xifs (xtnot (xtval (xcall (f := "_law_same") T hr tk rfl [false, false] rfl (xcons (xlst (xcons (xcall (f := "true_at") T hr tk rfl [false, false] rfl (xcons (xv _ _ 4) (xcons (xv _ _ 11) xnil))) (xcons (xcallk (f := "true_at") (ks := ["numbers", "saying"]) (perm := [1, 0]) T hr tk rfl [false, false] (by decide) rfl rfl (xkcons (xv _ _ 11) (xkcons (xv _ _ 4) xknil))) xnil))) (xcons (xlst (xcons (xv _ _ 12) (xcons (xv _ _ 12) xnil))) xnil))))) (xsone (xret xbl)) xsnil)
      (xscons (xifs (xtnot (xtval (xcall (f := "_law_same") T hr tk rfl [false, false] rfl (xcons (xcall (f := "true_at") T hr tk rfl [false, false] rfl (xcons (xtup (xcons xstr (xcons (xv _ _ 4) xnil))) (xcons (xv _ _ 11) xnil))) (xcons (xnot (xv _ _ 12)) xnil))))) (xsone (xret xbl)) xsnil)
      (xscons (xset (i := 13) nd rfl (.inl rfl) (xif (xtcmp (op_eqD hr.units) s_eq (xcall (f := "_law_pick") T hr tk rfl [true, false] rfl (xcons (xv _ _ 2) (xcons xint xnil))) xint (nomark _)) (xtup (xcons (xv _ _ 4) (xcons (xv _ _ 8) xnil))) (xtup (xcons (xv _ _ 8) (xcons (xv _ _ 4) xnil)))))
      (xscons (xset (i := 14) nd rfl (.inl rfl) (xty call_tuple_of s_tuple rfl B.tuple (by decide +kernel) (xcons (xlc rfl nd (xival (xcall (f := "_law_free") T hr tk rfl [false] rfl (xcons (xop op_addA s_add (xtup (xcons xstr xnil)) (xv _ _ 13)) xnil))) (own := [("i", 17)]) (blkOk_by (own := [("i", 17)]) (N := N_law) (sc := defScope stm_law) (by decide +kernel)) (fun _ _ _ _ _ => (gname (i := 17) nd rfl (.inl rfl))) (fun _ _ _ _ _ => xcyes) (fun _ _ _ _ _ => (xix _ (xv _ _ 10) (xv _ _ 17) (fun _ _ => rfl))) (wp_name (by decide)) gm_name) xnil)))
      (xscons (xset (i := 15) nd rfl (.inl rfl) (xcall (f := "_law_holds") T hr tk rfl [false, false] rfl (xcons (xv _ _ 8) (xcons (xv _ _ 10) xnil))))
      (xscons (xset (i := 16) nd rfl (.inl rfl) (xlst (xcons (xcall (f := "true_at") T hr tk rfl [false, false] rfl (xcons (xop op_addA s_add (xtup (xcons xstr xnil)) (xv _ _ 13)) (xcons (xv _ _ 14) xnil))) (xcons (xcall (f := "true_at") T hr tk rfl [false, false] rfl (xcons (xop op_addA s_add (xtup (xcons xstr xnil)) (xv _ _ 13)) (xcons (xv _ _ 14) xnil))) xnil))))
      (xscons (xifs (xtnot (xtval (xcall (f := "_law_same") T hr tk rfl [false, false] rfl (xcons (xv _ _ 16) (xcons (xlst (xcons (xand (xv _ _ 12) (xone (xv _ _ 15))) (xcons (xor (xv _ _ 12) (xone (xv _ _ 15))) xnil))) xnil))))) (xsone (xret xbl)) xsnil)
      (xsone (xdrop (xmeth PySem.F.plainAttrs_list PySem.F.slot_list_append PySem.F.type_list_append mt_append s_app (xv _ _ 7) (by exact (xcons (xtup (xcons (xv _ _ 11) (xcons (xv _ _ 12) xnil))) xnil)))))))))))))))))
      (xsone (xfor (passes_of rfl) rfl (xival (xrev (xv _ _ 7))) (gtup rfl (gcons (gname (i := 11) nd rfl (.inl rfl)) (gcons (gname (i := 12) nd rfl (.inl rfl)) gnil))) (xsone (xifs (xtnot (xtval (xcall (f := "_law_same") T hr tk rfl [false, false] rfl (xcons (xcall (f := "true_at") T hr tk rfl [false, false] rfl (xcons (xv _ _ 4) (xcons (xv _ _ 11) xnil))) (xcons (xv _ _ 12) xnil))))) (xsone (xret xbl)) xsnil))))))))))))
      (xsone (xret xbl)))
end
end K20
end P_Walk_K20

noncomputable section P_Head_K20
set_option Elab.async false
set_option linter.all false
set_option maxRecDepth 100000
set_option maxHeartbeats 0
/-! The head of a law over a T.py; printed by gen.py. -/
namespace K20
open PySem L2 PySem.Spec Ev
open PyProof.Rows hiding St
set_option autoImplicit false
def fnl0 : List He.DefD := [dq "is_integer" stm_is_integer, dq "is_below" stm_is_below, dq "is_fraction" stm_is_fraction, dq "is_sum" stm_is_sum, dq "is_atom_formed" stm_is_atom_formed, dq "inner_of" stm_inner_of, dq "is_saying" stm_is_saying, dq "check_saying" stm_check_saying, dq "inner_parts" stm_inner_parts, dq "is_atom" stm_is_atom, dq "variables_of" stm_variables_of, dq "free_of" stm_free_of, dq "parts_of" stm_parts_of, dq "is_plain" stm_is_plain, dq "sum_left" stm_sum_left, dq "is_atom_true" stm_is_atom_true, dq "is_true_at" stm_is_true_at, dq "check_numbers" stm_check_numbers, dq "true_at" stm_true_at, dq "_law_begin" stm__law_begin, dq "_law_tens" stm__law_tens, dq "_law_pick" stm__law_pick, dq "_law_same" stm__law_same, dq "_law_frac" stm__law_frac, dq "_law_sum" stm__law_sum, dq "_law_atom" stm__law_atom, dq "_law_saying" stm__law_saying, dq "_law_inner" stm__law_inner, dq "_law_free" stm__law_free, dq "_law_holds" stm__law_holds]
def fal0 : List He.Fa := [.glo (PySem.Str.ofString "is_integer"), .glo (PySem.Str.ofString "is_below"), .glo (PySem.Str.ofString "is_fraction"), .glo (PySem.Str.ofString "is_sum"), .glo (PySem.Str.ofString "is_atom_formed"), .glo (PySem.Str.ofString "inner_of"), .glo (PySem.Str.ofString "is_saying"), .glo (PySem.Str.ofString "check_saying"), .glo (PySem.Str.ofString "inner_parts"), .glo (PySem.Str.ofString "is_atom"), .glo (PySem.Str.ofString "variables_of"), .glo (PySem.Str.ofString "free_of"), .glo (PySem.Str.ofString "parts_of"), .glo (PySem.Str.ofString "is_plain"), .glo (PySem.Str.ofString "sum_left"), .glo (PySem.Str.ofString "is_atom_true"), .glo (PySem.Str.ofString "is_true_at"), .glo (PySem.Str.ofString "check_numbers"), .glo (PySem.Str.ofString "true_at"), .glo (PySem.Str.ofString "_law_begin"), .glo (PySem.Str.ofString "_law_tens"), .glo (PySem.Str.ofString "_law_pick"), .glo (PySem.Str.ofString "_law_same"), .glo (PySem.Str.ofString "_law_frac"), .glo (PySem.Str.ofString "_law_sum"), .glo (PySem.Str.ofString "_law_atom"), .glo (PySem.Str.ofString "_law_saying"), .glo (PySem.Str.ofString "_law_inner"), .glo (PySem.Str.ofString "_law_free"), .glo (PySem.Str.ofString "_law_holds")]
def fnl1 : List He.DefD := [dq "_law_number" stm__law_number, dq "_law_sums" stm__law_sums, dq "_law_small" stm__law_small, dq "_law_on_line" stm__law_on_line, dq "law" stm_law]
def fal1 : List He.Fa := [.glo (PySem.Str.ofString "_law_number"), .glo (PySem.Str.ofString "_law_sums"), .glo (PySem.Str.ofString "_law_small"), .glo (PySem.Str.ofString "_law_on_line"), .glo (PySem.Str.ofString "law")]
def fnl : List He.DefD := fnl0 ++ fnl1
def fal : List He.Fa := fal0 ++ fal1 ++ ([.free (PySem.Str.ofString "abs"), .free (PySem.Str.ofString "all"), .free (PySem.Str.ofString "any"), .free (PySem.Str.ofString "bool"), .free (PySem.Str.ofString "dict"), .free (PySem.Str.ofString "int"), .free (PySem.Str.ofString "isinstance"), .free (PySem.Str.ofString "len"), .free (PySem.Str.ofString "list"), .free (PySem.Str.ofString "max"), .free (PySem.Str.ofString "min"), .free (PySem.Str.ofString "range"), .free (PySem.Str.ofString "sorted"), .free (PySem.Str.ofString "str"), .free (PySem.Str.ofString "tuple"), .free (PySem.Str.ofString "zip")] : List He.Fa)
def exl (K : PySem.W.Frag) : Bool := biB "gcd" "math.gcd" K && cstB "SUMS" K_SUMS K && cstB "TRIED" K_TRIED K && cdB "JOINED" K_JOINED K
def tsl : List He.Tab := [(fun K => He.ga K (PySem.Str.ofString "JOINED"), [(PySem.Str.ofString "not"), (PySem.Str.ofString "both"), (PySem.Str.ofString "either")])]
theorem bnd_is_integer : BndOk "is_integer" stm_is_integer fn_is_integer.ps := fun _ _ _ _ _ _ us hl => match us, hl with | [_], _ => rfl
theorem kwd_is_integer : KwdOk "is_integer" stm_is_integer fn_is_integer.ps fn_is_integer.kws := kwd0
theorem bnd_is_below : BndOk "is_below" stm_is_below fn_is_below.ps := fun _ _ _ _ _ _ us hl => match us, hl with | [_, _], _ => rfl
theorem kwd_is_below : KwdOk "is_below" stm_is_below fn_is_below.ps fn_is_below.kws := kwd0
theorem bnd_is_fraction : BndOk "is_fraction" stm_is_fraction fn_is_fraction.ps := fun _ _ _ _ _ _ us hl => match us, hl with | [_], _ => rfl
theorem kwd_is_fraction : KwdOk "is_fraction" stm_is_fraction fn_is_fraction.ps fn_is_fraction.kws := kwd0
theorem bnd_is_sum : BndOk "is_sum" stm_is_sum fn_is_sum.ps := fun _ _ _ _ _ _ us hl => match us, hl with | [_], _ => rfl
theorem kwd_is_sum : KwdOk "is_sum" stm_is_sum fn_is_sum.ps fn_is_sum.kws := kwd0
theorem bnd_is_atom_formed : BndOk "is_atom_formed" stm_is_atom_formed fn_is_atom_formed.ps := fun _ _ _ _ _ _ us hl => match us, hl with | [_], _ => rfl
theorem kwd_is_atom_formed : KwdOk "is_atom_formed" stm_is_atom_formed fn_is_atom_formed.ps fn_is_atom_formed.kws := kwd0
theorem bnd_inner_of : BndOk "inner_of" stm_inner_of fn_inner_of.ps := fun _ _ _ _ _ _ us hl => match us, hl with | [_], _ => rfl
theorem kwd_inner_of : KwdOk "inner_of" stm_inner_of fn_inner_of.ps fn_inner_of.kws := kwd0
theorem bnd_is_saying : BndOk "is_saying" stm_is_saying fn_is_saying.ps := fun _ _ _ _ _ _ us hl => match us, hl with | [_], _ => rfl
theorem kwd_is_saying : KwdOk "is_saying" stm_is_saying fn_is_saying.ps fn_is_saying.kws := kwd0
theorem bnd_check_saying : BndOk "check_saying" stm_check_saying fn_check_saying.ps := fun _ _ _ _ _ _ us hl => match us, hl with | [_], _ => rfl
theorem kwd_check_saying : KwdOk "check_saying" stm_check_saying fn_check_saying.ps fn_check_saying.kws := kwd0
theorem bnd_inner_parts : BndOk "inner_parts" stm_inner_parts fn_inner_parts.ps := fun _ _ _ _ _ _ us hl => match us, hl with | [_], _ => rfl
theorem kwd_inner_parts : KwdOk "inner_parts" stm_inner_parts fn_inner_parts.ps fn_inner_parts.kws := kwd0
theorem bnd_is_atom : BndOk "is_atom" stm_is_atom fn_is_atom.ps := fun _ _ _ _ _ _ us hl => match us, hl with | [_], _ => rfl
theorem kwd_is_atom : KwdOk "is_atom" stm_is_atom fn_is_atom.ps fn_is_atom.kws := kwd0
theorem bnd_variables_of : BndOk "variables_of" stm_variables_of fn_variables_of.ps := fun _ _ _ _ _ _ us hl => match us, hl with | [_], _ => rfl
theorem kwd_variables_of : KwdOk "variables_of" stm_variables_of fn_variables_of.ps fn_variables_of.kws := kwd0
theorem bnd_free_of : BndOk "free_of" stm_free_of fn_free_of.ps := fun _ _ _ _ _ _ us hl => match us, hl with | [_], _ => rfl
theorem kwd_free_of : KwdOk "free_of" stm_free_of fn_free_of.ps fn_free_of.kws := kwd0
theorem bnd_parts_of : BndOk "parts_of" stm_parts_of fn_parts_of.ps := fun _ _ _ _ _ _ us hl => match us, hl with | [_], _ => rfl
theorem kwd_parts_of : KwdOk "parts_of" stm_parts_of fn_parts_of.ps fn_parts_of.kws := kwd0
theorem bnd_is_plain : BndOk "is_plain" stm_is_plain fn_is_plain.ps := fun _ _ _ _ _ _ us hl => match us, hl with | [_], _ => rfl
theorem kwd_is_plain : KwdOk "is_plain" stm_is_plain fn_is_plain.ps fn_is_plain.kws := kwd0
theorem bnd_sum_left : BndOk "sum_left" stm_sum_left fn_sum_left.ps := fun _ _ _ _ _ _ us hl => match us, hl with | [_, _, _], _ => rfl
theorem kwd_sum_left : KwdOk "sum_left" stm_sum_left fn_sum_left.ps fn_sum_left.kws := kwd0
theorem bnd_is_atom_true : BndOk "is_atom_true" stm_is_atom_true fn_is_atom_true.ps := fun _ _ _ _ _ _ us hl => match us, hl with | [_, _], _ => rfl
theorem kwd_is_atom_true : KwdOk "is_atom_true" stm_is_atom_true fn_is_atom_true.ps fn_is_atom_true.kws := kwd0
theorem bnd_is_true_at : BndOk "is_true_at" stm_is_true_at fn_is_true_at.ps := fun _ _ _ _ _ _ us hl => match us, hl with | [_, _], _ => rfl
theorem kwd_is_true_at : KwdOk "is_true_at" stm_is_true_at fn_is_true_at.ps fn_is_true_at.kws := kwd0
theorem bnd_check_numbers : BndOk "check_numbers" stm_check_numbers fn_check_numbers.ps := fun _ _ _ _ _ _ us hl => match us, hl with | [_, _], _ => rfl
theorem kwd_check_numbers : KwdOk "check_numbers" stm_check_numbers fn_check_numbers.ps fn_check_numbers.kws := kwd0
theorem bnd_true_at : BndOk "true_at" stm_true_at fn_true_at.ps := fun _ _ _ _ _ _ us hl => match us, hl with | [_, _], _ => rfl
theorem kwd_true_at : KwdOk "true_at" stm_true_at fn_true_at.ps fn_true_at.kws := fun kV doc pm an cdv ct ks perm hm s ws ws' e hl => by
  simp only [fn_true_at, List.mem_cons, List.not_mem_nil, or_false, Prod.mk.injEq] at hm
  rcases hm with ⟨rfl, rfl⟩
  all_goals
    match ws, e with
    | [], e => simp [permL] at e
    | [a0], e => simp [permL] at e
    | a0 :: a1 :: r, e =>
      cases e
      exact .of_eq rfl
theorem bnd__law_begin : BndOk "_law_begin" stm__law_begin fn__law_begin.ps := fun _ _ _ _ _ _ us hl => match us, hl with | [_, _], _ => rfl
theorem kwd__law_begin : KwdOk "_law_begin" stm__law_begin fn__law_begin.ps fn__law_begin.kws := kwd0
theorem bnd__law_tens : BndOk "_law_tens" stm__law_tens fn__law_tens.ps := fun _ _ _ _ _ _ us hl => match us, hl with | [_], _ => rfl
theorem kwd__law_tens : KwdOk "_law_tens" stm__law_tens fn__law_tens.ps fn__law_tens.kws := kwd0
theorem bnd__law_pick : BndOk "_law_pick" stm__law_pick fn__law_pick.ps := fun _ _ _ _ _ _ us hl => match us, hl with | [_, _], _ => rfl
theorem kwd__law_pick : KwdOk "_law_pick" stm__law_pick fn__law_pick.ps fn__law_pick.kws := kwd0
theorem bnd__law_same : BndOk "_law_same" stm__law_same fn__law_same.ps := fun _ _ _ _ _ _ us hl => match us, hl with | [_, _], _ => rfl
theorem kwd__law_same : KwdOk "_law_same" stm__law_same fn__law_same.ps fn__law_same.kws := kwd0
theorem bnd__law_frac : BndOk "_law_frac" stm__law_frac fn__law_frac.ps := fun _ _ _ _ _ _ us hl => match us, hl with | [_, _], _ => rfl
theorem kwd__law_frac : KwdOk "_law_frac" stm__law_frac fn__law_frac.ps fn__law_frac.kws := kwd0
theorem bnd__law_sum : BndOk "_law_sum" stm__law_sum fn__law_sum.ps := fun _ _ _ _ _ _ us hl => match us, hl with | [_, _, _], _ => rfl
theorem kwd__law_sum : KwdOk "_law_sum" stm__law_sum fn__law_sum.ps fn__law_sum.kws := kwd0
theorem bnd__law_atom : BndOk "_law_atom" stm__law_atom fn__law_atom.ps := fun _ _ _ _ _ _ us hl => match us, hl with | [_, _, _], _ => rfl
theorem kwd__law_atom : KwdOk "_law_atom" stm__law_atom fn__law_atom.ps fn__law_atom.kws := kwd0
theorem bnd__law_saying : BndOk "_law_saying" stm__law_saying fn__law_saying.ps := fun _ _ _ _ _ _ us hl => match us, hl with | [_, _, _, _, _], _ => rfl
theorem kwd__law_saying : KwdOk "_law_saying" stm__law_saying fn__law_saying.ps fn__law_saying.kws := kwd0
theorem bnd__law_inner : BndOk "_law_inner" stm__law_inner fn__law_inner.ps := fun _ _ _ _ _ _ us hl => match us, hl with | [_], _ => rfl
theorem kwd__law_inner : KwdOk "_law_inner" stm__law_inner fn__law_inner.ps fn__law_inner.kws := kwd0
theorem bnd__law_free : BndOk "_law_free" stm__law_free fn__law_free.ps := fun _ _ _ _ _ _ us hl => match us, hl with | [_], _ => rfl
theorem kwd__law_free : KwdOk "_law_free" stm__law_free fn__law_free.ps fn__law_free.kws := kwd0
theorem bnd__law_holds : BndOk "_law_holds" stm__law_holds fn__law_holds.ps := fun _ _ _ _ _ _ us hl => match us, hl with | [_, _], _ => rfl
theorem kwd__law_holds : KwdOk "_law_holds" stm__law_holds fn__law_holds.ps fn__law_holds.kws := kwd0
theorem bnd__law_number : BndOk "_law_number" stm__law_number fn__law_number.ps := fun _ _ _ _ _ _ us hl => match us, hl with | [_], _ => rfl
theorem kwd__law_number : KwdOk "_law_number" stm__law_number fn__law_number.ps fn__law_number.kws := kwd0
theorem bnd__law_sums : BndOk "_law_sums" stm__law_sums fn__law_sums.ps := fun _ _ _ _ _ _ us hl => match us, hl with | [_], _ => rfl
theorem kwd__law_sums : KwdOk "_law_sums" stm__law_sums fn__law_sums.ps fn__law_sums.kws := kwd0
theorem bnd__law_small : BndOk "_law_small" stm__law_small fn__law_small.ps := fun _ _ _ _ _ _ us hl => match us, hl with | [_], _ => rfl
theorem kwd__law_small : KwdOk "_law_small" stm__law_small fn__law_small.ps fn__law_small.kws := kwd0
theorem bnd__law_on_line : BndOk "_law_on_line" stm__law_on_line fn__law_on_line.ps := fun _ _ _ _ _ _ us hl => match us, hl with | [_, _], _ => rfl
theorem kwd__law_on_line : KwdOk "_law_on_line" stm__law_on_line fn__law_on_line.ps fn__law_on_line.kws := kwd0
theorem bnd_law : BndOk "law" stm_law fn_law.ps := fun _ _ _ _ _ _ us hl => match us, hl with | [_], _ => rfl
theorem kwd_law : KwdOk "law" stm_law fn_law.ps fn_law.kws := kwd0
section
variable {P : Program} {w : World} {K : PySem.W.Frag} {mg : PySem.Str → Option Value} {base h : Heap}
theorem bns (X : K.In h) (G : h.Ns mainGlobals mg) (S : He.SaysT fal fnl tsl w K) (e : exl K = true) : Bn mg := ⟨He.free_ok X G (S.d.fact 35 rfl), He.free_ok X G (S.d.fact 36 rfl), He.free_ok X G (S.d.fact 37 rfl), He.free_ok X G (S.d.fact 38 rfl), He.free_ok X G (S.d.fact 39 rfl), biB_ok X G (He.ba (He.ba (He.ba e).1).1).1, He.free_ok X G (S.d.fact 40 rfl), He.free_ok X G (S.d.fact 41 rfl), He.free_ok X G (S.d.fact 42 rfl), He.free_ok X G (S.d.fact 43 rfl), He.free_ok X G (S.d.fact 44 rfl), He.free_ok X G (S.d.fact 45 rfl), He.free_ok X G (S.d.fact 46 rfl), He.free_ok X G (S.d.fact 47 rfl), He.free_ok X G (S.d.fact 48 rfl), He.free_ok X G (S.d.fact 49 rfl), He.free_ok X G (S.d.fact 50 rfl)⟩
theorem cns (X : K.In h) (G : h.Ns mainGlobals mg) (S : He.SaysT fal fnl tsl w K) (e : exl K = true) : Cn K w mg := ⟨cstB_ok X G (He.ba (He.ba (He.ba e).1).1).2, cstB_ok X G (He.ba (He.ba e).1).2, cdB_ok X G (He.ba e).2 (S.tab 0 rfl)⟩
theorem dh_is_integer (X : K.In h) (G : h.Ns mainGlobals mg) (S : He.SaysT fal fnl tsl w K) : ∃ a fd, DefH K mg "is_integer" fn_is_integer stm_is_integer a fd := defH_of X G S "is_integer" fn_is_integer stm_is_integer 0 rfl rfl bnd_is_integer kwd_is_integer
theorem dh_is_below (X : K.In h) (G : h.Ns mainGlobals mg) (S : He.SaysT fal fnl tsl w K) : ∃ a fd, DefH K mg "is_below" fn_is_below stm_is_below a fd := defH_of X G S "is_below" fn_is_below stm_is_below 1 rfl rfl bnd_is_below kwd_is_below
theorem dh_is_fraction (X : K.In h) (G : h.Ns mainGlobals mg) (S : He.SaysT fal fnl tsl w K) : ∃ a fd, DefH K mg "is_fraction" fn_is_fraction stm_is_fraction a fd := defH_of X G S "is_fraction" fn_is_fraction stm_is_fraction 2 rfl rfl bnd_is_fraction kwd_is_fraction
theorem dh_is_sum (X : K.In h) (G : h.Ns mainGlobals mg) (S : He.SaysT fal fnl tsl w K) : ∃ a fd, DefH K mg "is_sum" fn_is_sum stm_is_sum a fd := defH_of X G S "is_sum" fn_is_sum stm_is_sum 3 rfl rfl bnd_is_sum kwd_is_sum
theorem dh_is_atom_formed (X : K.In h) (G : h.Ns mainGlobals mg) (S : He.SaysT fal fnl tsl w K) : ∃ a fd, DefH K mg "is_atom_formed" fn_is_atom_formed stm_is_atom_formed a fd := defH_of X G S "is_atom_formed" fn_is_atom_formed stm_is_atom_formed 4 rfl rfl bnd_is_atom_formed kwd_is_atom_formed
theorem dh_inner_of (X : K.In h) (G : h.Ns mainGlobals mg) (S : He.SaysT fal fnl tsl w K) : ∃ a fd, DefH K mg "inner_of" fn_inner_of stm_inner_of a fd := defH_of X G S "inner_of" fn_inner_of stm_inner_of 5 rfl rfl bnd_inner_of kwd_inner_of
theorem dh_is_saying (X : K.In h) (G : h.Ns mainGlobals mg) (S : He.SaysT fal fnl tsl w K) : ∃ a fd, DefH K mg "is_saying" fn_is_saying stm_is_saying a fd := defH_of X G S "is_saying" fn_is_saying stm_is_saying 6 rfl rfl bnd_is_saying kwd_is_saying
theorem dh_check_saying (X : K.In h) (G : h.Ns mainGlobals mg) (S : He.SaysT fal fnl tsl w K) : ∃ a fd, DefH K mg "check_saying" fn_check_saying stm_check_saying a fd := defH_of X G S "check_saying" fn_check_saying stm_check_saying 7 rfl rfl bnd_check_saying kwd_check_saying
theorem dh_inner_parts (X : K.In h) (G : h.Ns mainGlobals mg) (S : He.SaysT fal fnl tsl w K) : ∃ a fd, DefH K mg "inner_parts" fn_inner_parts stm_inner_parts a fd := defH_of X G S "inner_parts" fn_inner_parts stm_inner_parts 8 rfl rfl bnd_inner_parts kwd_inner_parts
theorem dh_is_atom (X : K.In h) (G : h.Ns mainGlobals mg) (S : He.SaysT fal fnl tsl w K) : ∃ a fd, DefH K mg "is_atom" fn_is_atom stm_is_atom a fd := defH_of X G S "is_atom" fn_is_atom stm_is_atom 9 rfl rfl bnd_is_atom kwd_is_atom
theorem dh_variables_of (X : K.In h) (G : h.Ns mainGlobals mg) (S : He.SaysT fal fnl tsl w K) : ∃ a fd, DefH K mg "variables_of" fn_variables_of stm_variables_of a fd := defH_of X G S "variables_of" fn_variables_of stm_variables_of 10 rfl rfl bnd_variables_of kwd_variables_of
theorem dh_free_of (X : K.In h) (G : h.Ns mainGlobals mg) (S : He.SaysT fal fnl tsl w K) : ∃ a fd, DefH K mg "free_of" fn_free_of stm_free_of a fd := defH_of X G S "free_of" fn_free_of stm_free_of 11 rfl rfl bnd_free_of kwd_free_of
theorem dh_parts_of (X : K.In h) (G : h.Ns mainGlobals mg) (S : He.SaysT fal fnl tsl w K) : ∃ a fd, DefH K mg "parts_of" fn_parts_of stm_parts_of a fd := defH_of X G S "parts_of" fn_parts_of stm_parts_of 12 rfl rfl bnd_parts_of kwd_parts_of
theorem dh_is_plain (X : K.In h) (G : h.Ns mainGlobals mg) (S : He.SaysT fal fnl tsl w K) : ∃ a fd, DefH K mg "is_plain" fn_is_plain stm_is_plain a fd := defH_of X G S "is_plain" fn_is_plain stm_is_plain 13 rfl rfl bnd_is_plain kwd_is_plain
theorem dh_sum_left (X : K.In h) (G : h.Ns mainGlobals mg) (S : He.SaysT fal fnl tsl w K) : ∃ a fd, DefH K mg "sum_left" fn_sum_left stm_sum_left a fd := defH_of X G S "sum_left" fn_sum_left stm_sum_left 14 rfl rfl bnd_sum_left kwd_sum_left
theorem dh_is_atom_true (X : K.In h) (G : h.Ns mainGlobals mg) (S : He.SaysT fal fnl tsl w K) : ∃ a fd, DefH K mg "is_atom_true" fn_is_atom_true stm_is_atom_true a fd := defH_of X G S "is_atom_true" fn_is_atom_true stm_is_atom_true 15 rfl rfl bnd_is_atom_true kwd_is_atom_true
theorem dh_is_true_at (X : K.In h) (G : h.Ns mainGlobals mg) (S : He.SaysT fal fnl tsl w K) : ∃ a fd, DefH K mg "is_true_at" fn_is_true_at stm_is_true_at a fd := defH_of X G S "is_true_at" fn_is_true_at stm_is_true_at 16 rfl rfl bnd_is_true_at kwd_is_true_at
theorem dh_check_numbers (X : K.In h) (G : h.Ns mainGlobals mg) (S : He.SaysT fal fnl tsl w K) : ∃ a fd, DefH K mg "check_numbers" fn_check_numbers stm_check_numbers a fd := defH_of X G S "check_numbers" fn_check_numbers stm_check_numbers 17 rfl rfl bnd_check_numbers kwd_check_numbers
theorem dh_true_at (X : K.In h) (G : h.Ns mainGlobals mg) (S : He.SaysT fal fnl tsl w K) : ∃ a fd, DefH K mg "true_at" fn_true_at stm_true_at a fd := defH_of X G S "true_at" fn_true_at stm_true_at 18 rfl rfl bnd_true_at kwd_true_at
theorem dh__law_begin (X : K.In h) (G : h.Ns mainGlobals mg) (S : He.SaysT fal fnl tsl w K) : ∃ a fd, DefH K mg "_law_begin" fn__law_begin stm__law_begin a fd := defH_of X G S "_law_begin" fn__law_begin stm__law_begin 19 rfl rfl bnd__law_begin kwd__law_begin
theorem dh__law_tens (X : K.In h) (G : h.Ns mainGlobals mg) (S : He.SaysT fal fnl tsl w K) : ∃ a fd, DefH K mg "_law_tens" fn__law_tens stm__law_tens a fd := defH_of X G S "_law_tens" fn__law_tens stm__law_tens 20 rfl rfl bnd__law_tens kwd__law_tens
theorem dh__law_pick (X : K.In h) (G : h.Ns mainGlobals mg) (S : He.SaysT fal fnl tsl w K) : ∃ a fd, DefH K mg "_law_pick" fn__law_pick stm__law_pick a fd := defH_of X G S "_law_pick" fn__law_pick stm__law_pick 21 rfl rfl bnd__law_pick kwd__law_pick
theorem dh__law_same (X : K.In h) (G : h.Ns mainGlobals mg) (S : He.SaysT fal fnl tsl w K) : ∃ a fd, DefH K mg "_law_same" fn__law_same stm__law_same a fd := defH_of X G S "_law_same" fn__law_same stm__law_same 22 rfl rfl bnd__law_same kwd__law_same
theorem dh__law_frac (X : K.In h) (G : h.Ns mainGlobals mg) (S : He.SaysT fal fnl tsl w K) : ∃ a fd, DefH K mg "_law_frac" fn__law_frac stm__law_frac a fd := defH_of X G S "_law_frac" fn__law_frac stm__law_frac 23 rfl rfl bnd__law_frac kwd__law_frac
theorem dh__law_sum (X : K.In h) (G : h.Ns mainGlobals mg) (S : He.SaysT fal fnl tsl w K) : ∃ a fd, DefH K mg "_law_sum" fn__law_sum stm__law_sum a fd := defH_of X G S "_law_sum" fn__law_sum stm__law_sum 24 rfl rfl bnd__law_sum kwd__law_sum
theorem dh__law_atom (X : K.In h) (G : h.Ns mainGlobals mg) (S : He.SaysT fal fnl tsl w K) : ∃ a fd, DefH K mg "_law_atom" fn__law_atom stm__law_atom a fd := defH_of X G S "_law_atom" fn__law_atom stm__law_atom 25 rfl rfl bnd__law_atom kwd__law_atom
theorem dh__law_saying (X : K.In h) (G : h.Ns mainGlobals mg) (S : He.SaysT fal fnl tsl w K) : ∃ a fd, DefH K mg "_law_saying" fn__law_saying stm__law_saying a fd := defH_of X G S "_law_saying" fn__law_saying stm__law_saying 26 rfl rfl bnd__law_saying kwd__law_saying
theorem dh__law_inner (X : K.In h) (G : h.Ns mainGlobals mg) (S : He.SaysT fal fnl tsl w K) : ∃ a fd, DefH K mg "_law_inner" fn__law_inner stm__law_inner a fd := defH_of X G S "_law_inner" fn__law_inner stm__law_inner 27 rfl rfl bnd__law_inner kwd__law_inner
theorem dh__law_free (X : K.In h) (G : h.Ns mainGlobals mg) (S : He.SaysT fal fnl tsl w K) : ∃ a fd, DefH K mg "_law_free" fn__law_free stm__law_free a fd := defH_of X G S "_law_free" fn__law_free stm__law_free 28 rfl rfl bnd__law_free kwd__law_free
theorem dh__law_holds (X : K.In h) (G : h.Ns mainGlobals mg) (S : He.SaysT fal fnl tsl w K) : ∃ a fd, DefH K mg "_law_holds" fn__law_holds stm__law_holds a fd := defH_of X G S "_law_holds" fn__law_holds stm__law_holds 29 rfl rfl bnd__law_holds kwd__law_holds
theorem dh__law_number (X : K.In h) (G : h.Ns mainGlobals mg) (S : He.SaysT fal fnl tsl w K) : ∃ a fd, DefH K mg "_law_number" fn__law_number stm__law_number a fd := defH_of X G S "_law_number" fn__law_number stm__law_number 30 rfl rfl bnd__law_number kwd__law_number
theorem dh__law_sums (X : K.In h) (G : h.Ns mainGlobals mg) (S : He.SaysT fal fnl tsl w K) : ∃ a fd, DefH K mg "_law_sums" fn__law_sums stm__law_sums a fd := defH_of X G S "_law_sums" fn__law_sums stm__law_sums 31 rfl rfl bnd__law_sums kwd__law_sums
theorem dh__law_small (X : K.In h) (G : h.Ns mainGlobals mg) (S : He.SaysT fal fnl tsl w K) : ∃ a fd, DefH K mg "_law_small" fn__law_small stm__law_small a fd := defH_of X G S "_law_small" fn__law_small stm__law_small 32 rfl rfl bnd__law_small kwd__law_small
theorem dh__law_on_line (X : K.In h) (G : h.Ns mainGlobals mg) (S : He.SaysT fal fnl tsl w K) : ∃ a fd, DefH K mg "_law_on_line" fn__law_on_line stm__law_on_line a fd := defH_of X G S "_law_on_line" fn__law_on_line stm__law_on_line 33 rfl rfl bnd__law_on_line kwd__law_on_line
theorem dh_law (X : K.In h) (G : h.Ns mainGlobals mg) (S : He.SaysT fal fnl tsl w K) : ∃ a fd, DefH K mg "law" fn_law stm_law a fd := defH_of X G S "law" fn_law stm_law 34 rfl rfl bnd_law kwd_law
theorem tb (X : K.In h) (G : h.Ns mainGlobals mg) (S : He.SaysT fal fnl tsl w K) (e : exl K = true) : ∀ n, Tb Γ P w K mg base n := tb_all fun f c hf => by
  have B := bns X G S e
  have C := cns X G S e
  unfold Γ at hf
  split at hf
  · cases hf; obtain ⟨a, fd, D⟩ := dh_is_integer X G S; exact ⟨a, fd, D.at_, fun n T => dv_is_integer B C T D.fn⟩
  · cases hf; obtain ⟨a, fd, D⟩ := dh_is_below X G S; exact ⟨a, fd, D.at_, fun n T => dv_is_below B C T D.fn⟩
  · cases hf; obtain ⟨a, fd, D⟩ := dh_is_fraction X G S; exact ⟨a, fd, D.at_, fun n T => dv_is_fraction B C T D.fn⟩
  · cases hf; obtain ⟨a, fd, D⟩ := dh_is_sum X G S; exact ⟨a, fd, D.at_, fun n T => dv_is_sum B C T D.fn⟩
  · cases hf; obtain ⟨a, fd, D⟩ := dh_is_atom_formed X G S; exact ⟨a, fd, D.at_, fun n T => dv_is_atom_formed B C T D.fn⟩
  · cases hf; obtain ⟨a, fd, D⟩ := dh_inner_of X G S; exact ⟨a, fd, D.at_, fun n T => dv_inner_of B C T D.fn⟩
  · cases hf; obtain ⟨a, fd, D⟩ := dh_is_saying X G S; exact ⟨a, fd, D.at_, fun n T => dv_is_saying B C T D.fn⟩
  · cases hf; obtain ⟨a, fd, D⟩ := dh_check_saying X G S; exact ⟨a, fd, D.at_, fun n T => dv_check_saying B C T D.fn⟩
  · cases hf; obtain ⟨a, fd, D⟩ := dh_inner_parts X G S; exact ⟨a, fd, D.at_, fun n T => dv_inner_parts B C T D.fn⟩
  · cases hf; obtain ⟨a, fd, D⟩ := dh_is_atom X G S; exact ⟨a, fd, D.at_, fun n T => dv_is_atom B C T D.fn⟩
  · cases hf; obtain ⟨a, fd, D⟩ := dh_variables_of X G S; exact ⟨a, fd, D.at_, fun n T => dv_variables_of B C T D.fn⟩
  · cases hf; obtain ⟨a, fd, D⟩ := dh_free_of X G S; exact ⟨a, fd, D.at_, fun n T => dv_free_of B C T D.fn⟩
  · cases hf; obtain ⟨a, fd, D⟩ := dh_parts_of X G S; exact ⟨a, fd, D.at_, fun n T => dv_parts_of B C T D.fn⟩
  · cases hf; obtain ⟨a, fd, D⟩ := dh_is_plain X G S; exact ⟨a, fd, D.at_, fun n T => dv_is_plain B C T D.fn⟩
  · cases hf; obtain ⟨a, fd, D⟩ := dh_sum_left X G S; exact ⟨a, fd, D.at_, fun n T => dv_sum_left B C T D.fn⟩
  · cases hf; obtain ⟨a, fd, D⟩ := dh_is_atom_true X G S; exact ⟨a, fd, D.at_, fun n T => dv_is_atom_true B C T D.fn⟩
  · cases hf; obtain ⟨a, fd, D⟩ := dh_is_true_at X G S; exact ⟨a, fd, D.at_, fun n T => dv_is_true_at B C T D.fn⟩
  · cases hf; obtain ⟨a, fd, D⟩ := dh_check_numbers X G S; exact ⟨a, fd, D.at_, fun n T => dv_check_numbers B C T D.fn⟩
  · cases hf; obtain ⟨a, fd, D⟩ := dh_true_at X G S; exact ⟨a, fd, D.at_, fun n T => dv_true_at B C T D.fn⟩
  · cases hf; obtain ⟨a, fd, D⟩ := dh__law_begin X G S; exact ⟨a, fd, D.at_, fun n T => dv__law_begin B C T D.fn⟩
  · cases hf; obtain ⟨a, fd, D⟩ := dh__law_tens X G S; exact ⟨a, fd, D.at_, fun n T => dv__law_tens B C T D.fn⟩
  · cases hf; obtain ⟨a, fd, D⟩ := dh__law_pick X G S; exact ⟨a, fd, D.at_, fun n T => dv__law_pick B C T D.fn⟩
  · cases hf; obtain ⟨a, fd, D⟩ := dh__law_same X G S; exact ⟨a, fd, D.at_, fun n T => dv__law_same B C T D.fn⟩
  · cases hf; obtain ⟨a, fd, D⟩ := dh__law_frac X G S; exact ⟨a, fd, D.at_, fun n T => dv__law_frac B C T D.fn⟩
  · cases hf; obtain ⟨a, fd, D⟩ := dh__law_sum X G S; exact ⟨a, fd, D.at_, fun n T => dv__law_sum B C T D.fn⟩
  · cases hf; obtain ⟨a, fd, D⟩ := dh__law_atom X G S; exact ⟨a, fd, D.at_, fun n T => dv__law_atom B C T D.fn⟩
  · cases hf; obtain ⟨a, fd, D⟩ := dh__law_saying X G S; exact ⟨a, fd, D.at_, fun n T => dv__law_saying B C T D.fn⟩
  · cases hf; obtain ⟨a, fd, D⟩ := dh__law_inner X G S; exact ⟨a, fd, D.at_, fun n T => dv__law_inner B C T D.fn⟩
  · cases hf; obtain ⟨a, fd, D⟩ := dh__law_free X G S; exact ⟨a, fd, D.at_, fun n T => dv__law_free B C T D.fn⟩
  · cases hf; obtain ⟨a, fd, D⟩ := dh__law_holds X G S; exact ⟨a, fd, D.at_, fun n T => dv__law_holds B C T D.fn⟩
  · cases hf; obtain ⟨a, fd, D⟩ := dh__law_number X G S; exact ⟨a, fd, D.at_, fun n T => dv__law_number B C T D.fn⟩
  · cases hf; obtain ⟨a, fd, D⟩ := dh__law_sums X G S; exact ⟨a, fd, D.at_, fun n T => dv__law_sums B C T D.fn⟩
  · cases hf; obtain ⟨a, fd, D⟩ := dh__law_small X G S; exact ⟨a, fd, D.at_, fun n T => dv__law_small B C T D.fn⟩
  · cases hf; obtain ⟨a, fd, D⟩ := dh__law_on_line X G S; exact ⟨a, fd, D.at_, fun n T => dv__law_on_line B C T D.fn⟩
  · cases hf; obtain ⟨a, fd, D⟩ := dh_law X G S; exact ⟨a, fd, D.at_, fun n T => dv_law B C T D.fn⟩
  · cases hf
end
abbrev R : PySem.W.OpenRow := PySem.W.OpenLaw.row PySem.Challenge.rw_wholeshapes_k20_whole_sayings_by_reckoni
def loose0 : List PySem.Str := [(PySem.Str.ofString "LineError"), (PySem.Str.ofString "InvalidNumbers"), (PySem.Str.ofString "InvalidSaying"), (PySem.Str.ofString "SUMS"), (PySem.Str.ofString "JOINED"), (PySem.Str.ofString "TRIED"), (PySem.Str.ofString "is_integer"), (PySem.Str.ofString "is_below"), (PySem.Str.ofString "is_fraction"), (PySem.Str.ofString "is_sum"), (PySem.Str.ofString "is_atom_formed"), (PySem.Str.ofString "inner_of"), (PySem.Str.ofString "is_saying"), (PySem.Str.ofString "check_saying"), (PySem.Str.ofString "inner_parts"), (PySem.Str.ofString "is_atom"), (PySem.Str.ofString "variables_of"), (PySem.Str.ofString "free_of"), (PySem.Str.ofString "parts_of"), (PySem.Str.ofString "is_plain"), (PySem.Str.ofString "sum_left"), (PySem.Str.ofString "is_atom_true"), (PySem.Str.ofString "is_true_at"), (PySem.Str.ofString "check_numbers"), (PySem.Str.ofString "true_at"), (PySem.Str.ofString "_law_begin"), (PySem.Str.ofString "_law_tens"), (PySem.Str.ofString "_law_pick"), (PySem.Str.ofString "_law_same"), (PySem.Str.ofString "_law_frac")]
def loose1 : List PySem.Str := [(PySem.Str.ofString "_law_sum"), (PySem.Str.ofString "_law_atom"), (PySem.Str.ofString "_law_saying"), (PySem.Str.ofString "_law_inner"), (PySem.Str.ofString "_law_free"), (PySem.Str.ofString "_law_holds"), (PySem.Str.ofString "_law_number"), (PySem.Str.ofString "_law_sums"), (PySem.Str.ofString "_law_small"), (PySem.Str.ofString "_law_on_line")]
def loose : List PySem.Str := loose0 ++ loose1
theorem run0 (w : World) : HandSHeadRun.RunEqI R (PySem.W.view R.prog [0, 46]) (hookV 4 fal fnl tsl exl) (obV 4 fal fnl tsl exl) 3000 loose (w.withFollow "special-get-raises" false) := by
  unfold HandSHeadRun.RunEqI
  kernel_rfl
theorem run1 (w : World) : HandSHeadRun.RunEqI R (PySem.W.view R.prog [0, 46]) (hookV 4 fal fnl tsl exl) (obV 4 fal fnl tsl exl) 3000 loose (w.withFollow "special-get-raises" true) := by
  unfold HandSHeadRun.RunEqI
  kernel_rfl
theorem run (w : World) : HandSHeadRun.RunEqI R (PySem.W.view R.prog [0, 46]) (hookV 4 fal fnl tsl exl) (obV 4 fal fnl tsl exl) 3000 loose w := PySem.W.byRow2 "special-get-raises" run0 run1 w
open PySem.W PySem.Calls in
theorem holds_of {N : Nat} (hr : Room (N + 1) PySem.callerA) (math : LawSays Γ (N + 1)) : PySem.Challenge.rw_wholeshapes_k20_whole_sayings_by_reckoni.Holds := by
  w_on; o_law
  refine HandSHeadRun.head_imp (r := OpenLaw.row PySem.Challenge.rw_wholeshapes_k20_whole_sayings_by_reckoni) (q := view (OpenLaw.row PySem.Challenge.rw_wholeshapes_k20_whole_sayings_by_reckoni).prog [0, 46]) (H := hookV 4 fal fnl tsl exl) (ob := obV 4 fal fnl tsl exl) (M := 3000) (loose := loose) (d := HandSHeadRun.topDef (OpenLaw.row PySem.Challenge.rw_wholeshapes_k20_whole_sayings_by_reckoni).prog 46) (kwd := []) obV_eq
     run (by kernel_rfl) (by kernel_rfl) (by kernel_rfl) (by rfl) (by first | assumption | decide +kernel) (by decide +kernel) ⟨rfl, rfl, rfl, rfl, rfl, by decide +kernel⟩ ?hw ?hc
  case hw => w_witness2
  case hc =>
    refine walkV (l := PySem.Challenge.rw_wholeshapes_k20_whole_sayings_by_reckoni) (n := 4) (fa := fal) (fn := fnl) (ts := tsl) (ex := exl) (Γ := Γ) (c := fn_law) (st := stm_law) (x := "script") rfl (by kernel_rfl) hr (by kernel_rfl) rfl rfl math ?F
    intro w mg h K X G S e
    obtain ⟨a, fd, D⟩ := dh_law X G S
    exact ⟨a, fd, D, fun base => dv_law (bns X G S e) (cns X G S e) (tb X G S e N) D.fn⟩
end K20
end P_Head_K20

section P_M1
set_option Elab.async false
set_option linter.all false
set_option maxRecDepth 100000
namespace K20
open Ev SY LS
set_option autoImplicit false
local macro_rules
  | `(tactic| simp_arith [$args,*]) => `(tactic| simp only [at_bind, at_ok, at_er, at_no, at_var, at_k, at_op, at_un, at_lk, at_opt, at_nil, at_cons, at_b, at_lks0, at_lks1, at_test, at_toTs0, at_toTs1, at_toTv, at_toTf, at_toTl, at_notT, ltl0, ltl1, ltl2, ltl3, ltl4, ltl5, ltl6, ltl7, ltl8, ltl9, ltl10, ltl11, ltl12, ltl13, ltl14, ltl15, ltl16, at_andT, at_orT, at_if, at_andV, at_orV, at_chain, at_set, at_drop, at_ret, at_pass, at_brk, at_cnt, at_ifS, at_seq, at_putv, at_putf, at_tup, at_lst, at_call, at_callK, at_args0, at_args1, at_argb, at_argt, at_callA, at_unp, at_btup, at_blst, at_bnil, at_bcons, at_bname, at_isi, at_notV, at_par, at_stabs0, at_stabs1, at_stabv, at_stabf, at_puts0, at_puts1, at_daug, at_store, at_chk, at_getE, at_setO, at_modE, at_meth, at_for, at_sval, at_rng1, at_sl, at_po0, at_po1, at_lc, at_dct, at_clear0, at_clear1, at_lc0, at_nox, at_yes, at_for0, at_aft_nx, at_aft_ct, at_aft_bk, at_aft_rt, at_wip0, at_wip1, Bool.and_true, look, List.getElem?_cons_zero, List.getElem?_cons_succ, List.getElem?_nil, List.set_cons_zero, List.set_cons_succ, List.set_nil, List.length_cons, List.length_nil, List.length_map, List.cons_append, List.nil_append, List.length_set, addF, subF, negF, ltF, leF, gtF, geF, isF, isnF, isNF, gcdF, absF, intF, iaddF, isiF, isi, Option.map_some, Option.map_none, Option.bind_some, Ob.data, keyT, List.map_cons, List.map_nil, argsS, bIdx, back, likeA, List.nodup_nil, List.nodup_cons, List.not_mem_nil, not_false_eq_true, and_self, and_true, true_and, if_true, if_false, ite_true, ite_false, ↓reduceIte, Bool.not_true, Bool.not_false, Bool.false_eq_true, decide_true, decide_false, Ev.finish, endOf, retOf, leave, enter, tagA, Ev.strip, retag, List.replicate, Nat.reduceAdd, Nat.reduceSub, Nat.reduceLT, Nat.reduceLeDiff, Nat.reduceEqDiff, permL, liftO, liftG, Urn.ty, Urn.st, Urn.lg, Urn.lo, eq_self, Urn.rt, line0, line1, line2, line3, line4, line5, line6, line7, line8, line9, line10, line11, line12, line13, line14, line15, line16, Urn.g_cells, Urn.g_at, Urn.g_deep, Urn.g_mix, Urn.g_turn, Urn.d_at, Urn.d_turn, Urn.p_at, Urn.p_deep, Urn.p_mix, Urn.p_turn, eq_int, ne_int, eq_bool, ne_bool, ten18, ten15, lenF, runFn, obT, at_aug, at_mForI1, ite_app, bind_ite, Sr.ty, Sr.st, Sr.rt, Sr.lg, Sr.lo, Sr.g0, Sr.g1, Sr.g2, Sr.s0, Sr.s2, Sr.tst, Sr.trt, Int.natCast_one, Int.natCast_zero, Int.cast_ofNat_Int, Int.reduceEq, Int.reduceLT, Int.reduceLE, Int.reduceAdd, Int.reduceSub, Int.reduceMul, Int.reduceNeg, reduceCtorEq, Int.reducePow, Int.reduceToNat, $args,*])
  | `(tactic| simp_arith [$args,*] at $h:ident) => `(tactic| simp only [at_bind, at_ok, at_er, at_no, at_var, at_k, at_op, at_un, at_lk, at_opt, at_nil, at_cons, at_b, at_lks0, at_lks1, at_test, at_toTs0, at_toTs1, at_toTv, at_toTf, at_toTl, at_notT, ltl0, ltl1, ltl2, ltl3, ltl4, ltl5, ltl6, ltl7, ltl8, ltl9, ltl10, ltl11, ltl12, ltl13, ltl14, ltl15, ltl16, at_andT, at_orT, at_if, at_andV, at_orV, at_chain, at_set, at_drop, at_ret, at_pass, at_brk, at_cnt, at_ifS, at_seq, at_putv, at_putf, at_tup, at_lst, at_call, at_callK, at_args0, at_args1, at_argb, at_argt, at_callA, at_unp, at_btup, at_blst, at_bnil, at_bcons, at_bname, at_isi, at_notV, at_par, at_stabs0, at_stabs1, at_stabv, at_stabf, at_puts0, at_puts1, at_daug, at_store, at_chk, at_getE, at_setO, at_modE, at_meth, at_for, at_sval, at_rng1, at_sl, at_po0, at_po1, at_lc, at_dct, at_clear0, at_clear1, at_lc0, at_nox, at_yes, at_for0, at_aft_nx, at_aft_ct, at_aft_bk, at_aft_rt, at_wip0, at_wip1, Bool.and_true, look, List.getElem?_cons_zero, List.getElem?_cons_succ, List.getElem?_nil, List.set_cons_zero, List.set_cons_succ, List.set_nil, List.length_cons, List.length_nil, List.length_map, List.cons_append, List.nil_append, List.length_set, addF, subF, negF, ltF, leF, gtF, geF, isF, isnF, isNF, gcdF, absF, intF, iaddF, isiF, isi, Option.map_some, Option.map_none, Option.bind_some, Ob.data, keyT, List.map_cons, List.map_nil, argsS, bIdx, back, likeA, List.nodup_nil, List.nodup_cons, List.not_mem_nil, not_false_eq_true, and_self, and_true, true_and, if_true, if_false, ite_true, ite_false, ↓reduceIte, Bool.not_true, Bool.not_false, Bool.false_eq_true, decide_true, decide_false, Ev.finish, endOf, retOf, leave, enter, tagA, Ev.strip, retag, List.replicate, Nat.reduceAdd, Nat.reduceSub, Nat.reduceLT, Nat.reduceLeDiff, Nat.reduceEqDiff, permL, liftO, liftG, Urn.ty, Urn.st, Urn.lg, Urn.lo, eq_self, Urn.rt, line0, line1, line2, line3, line4, line5, line6, line7, line8, line9, line10, line11, line12, line13, line14, line15, line16, Urn.g_cells, Urn.g_at, Urn.g_deep, Urn.g_mix, Urn.g_turn, Urn.d_at, Urn.d_turn, Urn.p_at, Urn.p_deep, Urn.p_mix, Urn.p_turn, eq_int, ne_int, eq_bool, ne_bool, ten18, ten15, lenF, runFn, obT, at_aug, at_mForI1, ite_app, bind_ite, Sr.ty, Sr.st, Sr.rt, Sr.lg, Sr.lo, Sr.g0, Sr.g1, Sr.g2, Sr.s0, Sr.s2, Sr.tst, Sr.trt, Int.natCast_one, Int.natCast_zero, Int.cast_ofNat_Int, Int.reduceEq, Int.reduceLT, Int.reduceLE, Int.reduceAdd, Int.reduceSub, Int.reduceMul, Int.reduceNeg, reduceCtorEq, Int.reducePow, Int.reduceToNat, $args,*] at $h:ident)
theorem hA : LA.Has Γ := ⟨⟨_, rfl⟩, ⟨_, rfl⟩, ⟨_, rfl⟩, ⟨_, rfl⟩⟩
theorem hS : SY.Has Γ := ⟨⟨_, rfl⟩, ⟨_, rfl⟩, ⟨_, rfl⟩, ⟨_, rfl⟩, ⟨_, rfl⟩, ⟨_, rfl⟩, ⟨_, rfl⟩, ⟨_, rfl⟩, ⟨_, rfl⟩, ⟨_, rfl⟩, ⟨_, rfl⟩, ⟨_, rfl⟩, ⟨_, rfl⟩, ⟨_, rfl⟩, ⟨_, rfl⟩, ⟨_, rfl⟩, ⟨_, rfl⟩, ⟨_, rfl⟩, ⟨_, rfl⟩⟩
theorem hL : LS.Has Γ := ⟨⟨_, rfl⟩, ⟨_, rfl⟩, ⟨_, rfl⟩, ⟨_, rfl⟩, ⟨_, rfl⟩, ⟨_, rfl⟩, ⟨_, rfl⟩⟩
theorem say_T {s : Sr} (j : Nat) : strip (.tg j s.ob) = s.ob := id rfl
/-! ### a drawn saying -/
theorem law_saying (size : Int) (z0 : 0 ≤ size) (z1 : size ≤ 1000) : ∀ (d : Nat) (c : Int) (m k : Nat) (s : Sr) (o : Ob), strip o = s.ob → 1 ≤ c → c ≤ d → d + 4 ≤ m → LA.SOk k s → k + 20 * c.toNat ≤ 700000 →
    ∃ (s' : Sr) (q : Say), callN Γ m "_law_saying" [.own o, .v (.int c), .v (.list [.int 0]), .v (.int size), .v (.int 20)] = .rt (.v q.t) [.own (retag o s'.ob), .v (.int c), .v (.list [.int 0]), .v (.int size), .v (.int 20)] ∧ Gd c.toNat q ∧ LA.SOk (k + 20 * c.toNat) s'
  | 0, c, m, k, s, o, _, h1, h2, _, _, _ => by omega
  | d + 1, c, m, k, s, o, ho, h1, h2, hm, hs, hk => by
    obtain ⟨n, rfl⟩ : ∃ n, m = n + 1 := ⟨m - 1, by omega⟩
    rw [callN_eq (c := fn__law_saying) (k := []) rfl]
    have K : Bd 9000 100 := (by decide : Bd 8 100).mono (by omega)
    have K2 : Bd 9000 1000000 := (by decide : Bd 20 1000000).mono (by omega)
    by_cases c1 : c = 1
    · subst c1
      obtain ⟨s1, q, e1, g, _, o1⟩ := law_atom hA hL (m := n) (o := .tg 0 s.ob) rfl (by omega) hs (by omega) z0 z1 (limit := 20) (by omega) (by omega)
      have e1 : callN Γ n "_law_atom" [.own (.tg 0 s.ob), .v (.int size), .v (.int 20)] = .rt (.v q.t) [.own (.tg 0 s1.ob), .v (.int size), .v (.int 20)] := e1
      refine ⟨s1, q, ?_, g, o1.mono (by simp)⟩
      simp_arith [fn__law_saying, cd__law_saying, ho, e1]
    · obtain ⟨r1, s1, e1, a1, b1, o1⟩ := LA.pickT hA (m := n) (by omega) hs (by omega) (many := 6) (by omega) (K.of_le (by omega))
      by_cases w3 : r1 < 3 ∧ 2 < c
      · obtain ⟨r2, s2, e2, a2, b2, o2⟩ := LA.pickT hA (m := n) (by omega) o1 (by omega) (many := c - 2) (by omega) (K2.of_le (by omega))
        obtain ⟨s3, q3, e3, g3, o3⟩ := law_saying size z0 z1 d (1 + r2) n _ s2 (.tg 0 s2.ob) rfl (by omega) (by omega) (by omega) o2 (by omega)
        obtain ⟨s4, q4, e4, g4, o4⟩ := law_saying size z0 z1 d (c - 1 - (1 + r2)) n _ s3 (.tg 0 s3.ob) rfl (by omega) (by omega) (by omega) o3 (by omega)
        obtain ⟨r5, s5, e5, a5, b5, o5⟩ := LA.pickT hA (m := n) (by omega) o4 (by omega) (many := 2) (by omega) (K.of_le (by omega))
        have e3 : callN Γ n "_law_saying" [.own (.tg 0 s2.ob), .v (.int (1 + r2)), .v (.list [.int 0]), .v (.int size), .v (.int 20)] = .rt (.v q3.t) [.own (.tg 0 s3.ob), .v (.int (1 + r2)), .v (.list [.int 0]), .v (.int size), .v (.int 20)] := e3
        have e4 : callN Γ n "_law_saying" [.own (.tg 0 s3.ob), .v (.int (c - 1 - (1 + r2))), .v (.list [.int 0]), .v (.int size), .v (.int 20)] = .rt (.v q4.t) [.own (.tg 0 s4.ob), .v (.int (c - 1 - (1 + r2))), .v (.list [.int 0]), .v (.int size), .v (.int 20)] := e4
        have sz : q3.sz + q4.sz + 1 ≤ c.toNat := by
          have := g3.sz
          have := g4.sz
          omega
        have cr : r5 = 0 ∨ r5 = 1 := by omega
        rcases cr with rfl | rfl
        · refine ⟨s5, .two .both q3 q4, ?_, ⟨⟨rfl, g3.ok, g4.ok⟩, by simp [plain, g3.plain, g4.plain], ⟨g3.sm, g4.sm⟩, sz⟩, o5.mono (by omega)⟩
          simp_arith [fn__law_saying, cd__law_saying, ho, c1, e1, w3.1, w3.2, e2, e3, e4, lix20, e5, Say.t]
          rfl
        · refine ⟨s5, .two .either q3 q4, ?_, ⟨⟨rfl, g3.ok, g4.ok⟩, by simp [plain, g3.plain, g4.plain], ⟨g3.sm, g4.sm⟩, sz⟩, o5.mono (by omega)⟩
          simp_arith [fn__law_saying, cd__law_saying, ho, c1, e1, w3.1, w3.2, e2, e3, e4, lix21, e5, Say.t]
          rfl
      · obtain ⟨s3, q3, e3, g3, o3⟩ := law_saying size z0 z1 d (c - 1) n _ s1 (.tg 0 s1.ob) rfl (by omega) (by omega) (by omega) o1 (by omega)
        have e3 : callN Γ n "_law_saying" [.own (.tg 0 s1.ob), .v (.int (c - 1)), .v (.list [.int 0]), .v (.int size), .v (.int 20)] = .rt (.v q3.t) [.own (.tg 0 s3.ob), .v (.int (c - 1)), .v (.list [.int 0]), .v (.int size), .v (.int 20)] := e3
        refine ⟨s3, .neg q3, ?_, ⟨g3.ok, g3.plain, g3.sm, by have := g3.sz; simp only [Say.sz]; omega⟩, o3.mono (by omega)⟩
        by_cases w1 : r1 < 3
        · have w2 : ¬ 2 < c := fun z => w3 ⟨w1, z⟩
          have w4 : ¬ 3 < r1 := by omega
          simp_arith [fn__law_saying, cd__law_saying, ho, c1, e1, w1, w2, w4, lix10, e3, Say.t]
          rfl
        · by_cases w4 : 3 < r1
          · simp_arith [fn__law_saying, cd__law_saying, ho, c1, e1, w1, w4, lix10, e3, Say.t]
            rfl
          · simp_arith [fn__law_saying, cd__law_saying, ho, c1, e1, w1, w4, lix10, e3, Say.t]
            rfl
end K20
end P_M1

section P_M2
set_option Elab.async false
set_option linter.all false
set_option maxRecDepth 100000
namespace K20
open Ev SY LS
set_option autoImplicit false
local macro_rules
  | `(tactic| simp_arith [$args,*]) => `(tactic| simp only [at_bind, at_ok, at_er, at_no, at_var, at_k, at_op, at_un, at_lk, at_opt, at_nil, at_cons, at_b, at_lks0, at_lks1, at_test, at_toTs0, at_toTs1, at_toTv, at_toTf, at_toTl, at_notT, ltl0, ltl1, ltl2, ltl3, ltl4, ltl5, ltl6, ltl7, ltl8, ltl9, ltl10, ltl11, ltl12, ltl13, ltl14, ltl15, ltl16, at_andT, at_orT, at_if, at_andV, at_orV, at_chain, at_set, at_drop, at_ret, at_pass, at_brk, at_cnt, at_ifS, at_seq, at_putv, at_putf, at_tup, at_lst, at_call, at_callK, at_args0, at_args1, at_argb, at_argt, at_callA, at_unp, at_btup, at_blst, at_bnil, at_bcons, at_bname, at_isi, at_notV, at_par, at_stabs0, at_stabs1, at_stabv, at_stabf, at_puts0, at_puts1, at_daug, at_store, at_chk, at_getE, at_setO, at_modE, at_meth, at_for, at_sval, at_rng1, at_sl, at_po0, at_po1, at_lc, at_dct, at_clear0, at_clear1, at_lc0, at_nox, at_yes, at_for0, at_aft_nx, at_aft_ct, at_aft_bk, at_aft_rt, at_wip0, at_wip1, Bool.and_true, look, List.getElem?_cons_zero, List.getElem?_cons_succ, List.getElem?_nil, List.set_cons_zero, List.set_cons_succ, List.set_nil, List.length_cons, List.length_nil, List.length_map, List.cons_append, List.nil_append, List.length_set, addF, subF, negF, ltF, leF, gtF, geF, isF, isnF, isNF, gcdF, absF, intF, iaddF, isiF, isi, Option.map_some, Option.map_none, Option.bind_some, Ob.data, keyT, List.map_cons, List.map_nil, argsS, bIdx, back, likeA, List.nodup_nil, List.nodup_cons, List.not_mem_nil, not_false_eq_true, and_self, and_true, true_and, if_true, if_false, ite_true, ite_false, ↓reduceIte, Bool.not_true, Bool.not_false, Bool.false_eq_true, decide_true, decide_false, Ev.finish, endOf, retOf, leave, enter, tagA, Ev.strip, retag, List.replicate, Nat.reduceAdd, Nat.reduceSub, Nat.reduceLT, Nat.reduceLeDiff, Nat.reduceEqDiff, permL, liftO, liftG, Urn.ty, Urn.st, Urn.lg, Urn.lo, eq_self, Urn.rt, line0, line1, line2, line3, line4, line5, line6, line7, line8, line9, line10, line11, line12, line13, line14, line15, line16, Urn.g_cells, Urn.g_at, Urn.g_deep, Urn.g_mix, Urn.g_turn, Urn.d_at, Urn.d_turn, Urn.p_at, Urn.p_deep, Urn.p_mix, Urn.p_turn, eq_int, ne_int, eq_bool, ne_bool, ten18, ten15, lenF, runFn, obT, at_aug, at_mForI1, ite_app, bind_ite, Sr.ty, Sr.st, Sr.rt, Sr.lg, Sr.lo, Sr.g0, Sr.g1, Sr.g2, Sr.s0, Sr.s2, Sr.tst, Sr.trt, Int.natCast_one, Int.natCast_zero, Int.cast_ofNat_Int, Int.reduceEq, Int.reduceLT, Int.reduceLE, Int.reduceAdd, Int.reduceSub, Int.reduceMul, Int.reduceNeg, reduceCtorEq, Int.reducePow, Int.reduceToNat, $args,*])
  | `(tactic| simp_arith [$args,*] at $h:ident) => `(tactic| simp only [at_bind, at_ok, at_er, at_no, at_var, at_k, at_op, at_un, at_lk, at_opt, at_nil, at_cons, at_b, at_lks0, at_lks1, at_test, at_toTs0, at_toTs1, at_toTv, at_toTf, at_toTl, at_notT, ltl0, ltl1, ltl2, ltl3, ltl4, ltl5, ltl6, ltl7, ltl8, ltl9, ltl10, ltl11, ltl12, ltl13, ltl14, ltl15, ltl16, at_andT, at_orT, at_if, at_andV, at_orV, at_chain, at_set, at_drop, at_ret, at_pass, at_brk, at_cnt, at_ifS, at_seq, at_putv, at_putf, at_tup, at_lst, at_call, at_callK, at_args0, at_args1, at_argb, at_argt, at_callA, at_unp, at_btup, at_blst, at_bnil, at_bcons, at_bname, at_isi, at_notV, at_par, at_stabs0, at_stabs1, at_stabv, at_stabf, at_puts0, at_puts1, at_daug, at_store, at_chk, at_getE, at_setO, at_modE, at_meth, at_for, at_sval, at_rng1, at_sl, at_po0, at_po1, at_lc, at_dct, at_clear0, at_clear1, at_lc0, at_nox, at_yes, at_for0, at_aft_nx, at_aft_ct, at_aft_bk, at_aft_rt, at_wip0, at_wip1, Bool.and_true, look, List.getElem?_cons_zero, List.getElem?_cons_succ, List.getElem?_nil, List.set_cons_zero, List.set_cons_succ, List.set_nil, List.length_cons, List.length_nil, List.length_map, List.cons_append, List.nil_append, List.length_set, addF, subF, negF, ltF, leF, gtF, geF, isF, isnF, isNF, gcdF, absF, intF, iaddF, isiF, isi, Option.map_some, Option.map_none, Option.bind_some, Ob.data, keyT, List.map_cons, List.map_nil, argsS, bIdx, back, likeA, List.nodup_nil, List.nodup_cons, List.not_mem_nil, not_false_eq_true, and_self, and_true, true_and, if_true, if_false, ite_true, ite_false, ↓reduceIte, Bool.not_true, Bool.not_false, Bool.false_eq_true, decide_true, decide_false, Ev.finish, endOf, retOf, leave, enter, tagA, Ev.strip, retag, List.replicate, Nat.reduceAdd, Nat.reduceSub, Nat.reduceLT, Nat.reduceLeDiff, Nat.reduceEqDiff, permL, liftO, liftG, Urn.ty, Urn.st, Urn.lg, Urn.lo, eq_self, Urn.rt, line0, line1, line2, line3, line4, line5, line6, line7, line8, line9, line10, line11, line12, line13, line14, line15, line16, Urn.g_cells, Urn.g_at, Urn.g_deep, Urn.g_mix, Urn.g_turn, Urn.d_at, Urn.d_turn, Urn.p_at, Urn.p_deep, Urn.p_mix, Urn.p_turn, eq_int, ne_int, eq_bool, ne_bool, ten18, ten15, lenF, runFn, obT, at_aug, at_mForI1, ite_app, bind_ite, Sr.ty, Sr.st, Sr.rt, Sr.lg, Sr.lo, Sr.g0, Sr.g1, Sr.g2, Sr.s0, Sr.s2, Sr.tst, Sr.trt, Int.natCast_one, Int.natCast_zero, Int.cast_ofNat_Int, Int.reduceEq, Int.reduceLT, Int.reduceLE, Int.reduceAdd, Int.reduceSub, Int.reduceMul, Int.reduceNeg, reduceCtorEq, Int.reducePow, Int.reduceToNat, $args,*] at $h:ident)
/-! ### the sums in it -/
def sums : Say → List Say
  | .sum w a b c l => if (fl (.sum w a b c l)).isEmpty then [] else [.sum w a b c l]
  | .neg s => sums s
  | .two _ s t => sums s ++ sums t
  | .q _ _ s => sums s
  | _ => []
theorem sums_len : ∀ s : Say, (sums s).length ≤ s.sz
  | .sum w a b c l => by unfold sums; split <;> simp [Say.sz]
  | .whole _ => by simp [sums]
  | .rest _ _ _ => by simp [sums]
  | .neg s => by have := sums_len s; simp only [sums, Say.sz]; omega
  | .two _ s t => by have := sums_len s; have := sums_len t; simp only [sums, Say.sz, List.length_append]; omega
  | .q _ _ s => by have := sums_len s; simp only [sums, Say.sz]; omega
theorem mem_sums {p : Say} : ∀ {s : Say}, s.Ok → Sm s → p ∈ sums s → (∃ w a b c l, p = .sum w a b c l) ∧ p.Ok ∧ Sm p ∧ fl p ≠ []
  | .sum w a b c l, h, hs, m => by
    unfold sums at m
    split at m
    · cases m
    · rename_i ne
      rw [List.mem_singleton] at m
      subst m
      exact ⟨⟨w, a, b, c, l, rfl⟩, h, hs, fun z => ne (by rw [z]; rfl)⟩
  | .whole _, _, _, m => by cases m
  | .rest _ _ _, _, _, m => by cases m
  | .neg s, h, hs, m => mem_sums (s := s) h hs m
  | .two _ s t, h, hs, m => by
    rcases List.mem_append.mp m with m | m
    · exact mem_sums h.2.1 hs.1 m
    · exact mem_sums h.2.2 hs.2 m
  | .q _ _ s, h, hs, m => mem_sums (s := s) h.2.2 hs m
theorem line60 {k : Nat} (h : k ≤ 1000) : k ≤ PySem.sizeLine := Nat.le_trans h (by decide)
theorem law_sums : ∀ (s : Say) (m : Nat), s.Ok → s.sz + 2 ≤ m → s.sz ≤ 100 → callN Γ m "_law_sums" [.v s.t] = .rt (.fr (.lst ((sums s).map Say.t))) [.v s.t] := by
  intro s
  induction s with
  | sum w a b c l =>
    intro m h hm _
    obtain ⟨n, rfl⟩ : ∃ n, m = n + 1 := ⟨m - 1, by omega⟩
    rw [callN_eq (c := fn__law_sums) (k := []) rfl]
    have e1 := law_free hL (.sum w a b c l) n h (by simp only [Say.sz] at *; omega)
    have ne := ne_ints (ks := fl (.sum w a b c l)) (asc_len _)
    rw [show (fl (.sum w a b c l)).map T.int = flT (.sum w a b c l) from rfl] at ne
    rw [Say.t] at e1
    cases q : (fl (.sum w a b c l)).isEmpty with
    | true =>
      rw [q] at ne
      simp_arith [fn__law_sums, cd__law_sums, Say.t, ix30, inS3, (show w.isS = true from h), e1, ne, sums, q]
    | false =>
      rw [q] at ne
      simp_arith [fn__law_sums, cd__law_sums, Say.t, ix30, inS3, (show w.isS = true from h), e1, ne, sums, q]
  | whole i =>
    intro m h hm _
    obtain ⟨n, rfl⟩ : ∃ n, m = n + 1 := ⟨m - 1, by omega⟩
    rw [callN_eq (c := fn__law_sums) (k := []) rfl]
    have e1 := law_inner hL (m := n) (by omega) h
    rw [Say.t] at e1
    simp_arith [fn__law_sums, cd__law_sums, Say.t, ix20, inS3, W.isS, e1, Say.inn, itemsOf, sums]
  | rest i j r =>
    intro m h hm _
    obtain ⟨n, rfl⟩ : ∃ n, m = n + 1 := ⟨m - 1, by omega⟩
    rw [callN_eq (c := fn__law_sums) (k := []) rfl]
    have e1 := law_inner hL (m := n) (by omega) h
    rw [Say.t] at e1
    simp_arith [fn__law_sums, cd__law_sums, Say.t, ix40, inS3, W.isS, e1, Say.inn, itemsOf, sums]
  | neg s ih =>
    intro m h hm hz
    obtain ⟨n, rfl⟩ : ∃ n, m = n + 1 := ⟨m - 1, by omega⟩
    rw [callN_eq (c := fn__law_sums) (k := []) rfl]
    simp only [Say.sz] at hm hz
    have e1 := law_inner hL (m := n) (by omega) h
    rw [Say.t] at e1
    have e2 := ih n h (by omega) (by omega)
    have l0 : 0 + (sums s).length ≤ PySem.sizeLine := line60 (by have := sums_len s; omega)
    simp_arith [fn__law_sums, cd__law_sums, Say.t, ix20, inS3, W.isS, e1, Say.inn, itemsOf, at_for1, e2, l0, sums]
  | two w s t ih1 ih2 =>
    intro m h hm hz
    obtain ⟨n, rfl⟩ : ∃ n, m = n + 1 := ⟨m - 1, by omega⟩
    rw [callN_eq (c := fn__law_sums) (k := []) rfl]
    simp only [Say.sz] at hm hz
    have e1 := law_inner hL (m := n) (by omega) h
    rw [Say.t] at e1
    have e2 := ih1 n h.2.1 (by omega) (by omega)
    have e3 := ih2 n h.2.2 (by omega) (by omega)
    have l0 : 0 + (sums s).length ≤ PySem.sizeLine := line60 (by have := sums_len s; omega)
    have l1 : (sums s).length + (sums t).length ≤ PySem.sizeLine := line60 (by have := sums_len s; have := sums_len t; omega)
    simp_arith [fn__law_sums, cd__law_sums, Say.t, ix30, inS3, isB_S h.1, e1, Say.inn, itemsOf, at_for1, e2, e3, l0, l1, sums, List.map_append]
  | q w j s ih =>
    intro m h hm hz
    obtain ⟨n, rfl⟩ : ∃ n, m = n + 1 := ⟨m - 1, by omega⟩
    rw [callN_eq (c := fn__law_sums) (k := []) rfl]
    simp only [Say.sz] at hm hz
    have e1 := law_inner hL (m := n) (by omega) h
    rw [Say.t] at e1
    have e2 := ih n h.2.2 (by omega) (by omega)
    have l0 : 0 + (sums s).length ≤ PySem.sizeLine := line60 (by have := sums_len s; omega)
    simp_arith [fn__law_sums, cd__law_sums, Say.t, ix30, inS3, isT_S h.1, e1, Say.inn, itemsOf, at_for1, e2, l0, sums]
/-! ### a tuple beside a line -/
theorem law_small {m k : Nat} {s : Sr} (hm : 2 ≤ m) (h : LA.SOk k s) (hk : k ≤ 900000) :
    ∃ (s' : Sr) (p q : Int), callN Γ m "_law_small" [.own (.tg 0 s.ob)] = .rt (.v (fr p q)) [.own (.tg 0 s'.ob)] ∧ Red 20 p q ∧ LA.SOk (k + 2) s' := by
  obtain ⟨n, rfl⟩ : ∃ n, m = n + 1 := ⟨m - 1, by omega⟩
  rw [callN_eq (c := fn__law_small) (k := []) rfl]
  have B : Bd 20 10000 := by decide
  obtain ⟨r2, s2, e2, a2, c2, o2⟩ := LA.pickT hA (m := n) (by omega) h (by omega) (many := 2001) (by omega) ((B.of_le (by omega)).mono (by omega))
  obtain ⟨r3, s3, e3, a3, c3, o3⟩ := LA.pickT hA (m := n) (by omega) o2 (by omega) (many := 60) (by omega) ((B.of_le (by omega)).mono (by omega))
  have q0 : 1 + r3 ≠ 0 := by omega
  have ba : Bd 20 (r2 - 1000) := B.of_le (by omega)
  have bb : Bd 20 (1 + r3) := B.of_le (by omega)
  have e4 := LA.frac hA (m := n) (by omega) q0 (ba.mono (by omega)) (bb.mono (by omega))
  refine ⟨s3, _, _, ?_, low_red q0 ba bb, o3.mono (by omega)⟩
  simp_arith [fn__law_small, cd__law_small, e2, e3, e4]
def gO (g : Int → Int × Int) : Ob := .lst [gT g 0, gT g 1, gT g 2]
theorem gO_data (g : Int → Int × Int) : (gO g).data = gl g := id rfl
theorem gO_ty (g : Int → Int × Int) : obT (gO g) = "list" := id rfl
theorem gO_lo (g : Int → Int × Int) (f : Ob → Option Ob) : liftO f (gO g) = f (gO g) := id rfl
def gSet (g : Int → Int × Int) (i p q : Int) : Int → Int × Int := fun j => if j = i then (p, q) else g j
theorem gO_set (g : Int → Int × Int) {i : Int} (p q : Int) (h0 : 0 ≤ i) (h1 : i < 3) : setLF (.int i) (fr p q) (gO g) = some (gO (gSet g i p q)) := by
  have : i = 0 ∨ i = 1 ∨ i = 2 := by omega
  rcases this with rfl | rfl | rfl <;> rfl
theorem ix_ints {ks : List Int} {r : Int} (h0 : 0 ≤ r) (h1 : r < ks.length) : ∃ i, i ∈ ks ∧ ixF (.tuple (ks.map .int)) (.int r) = some (.v (.int i)) := by
  have h2 : r.toNat < ks.length := by omega
  exact ⟨ks[r.toNat], List.getElem_mem h2, by simp [ixF, L2.atI, L2.ixN, h0, h1, h2]⟩
theorem nz_ne {a b c i : Int} (h : nz a b c i = true) : co a b c i ≠ 0 := by simpa [nz] using h
theorem law_on_line {m k : Nat} {s : Sr} {o : Ob} (ho : strip o = s.ob) {w : W} {a b c l : Int} (hm : 10 ≤ m) (h : LA.SOk k s) (hk : k ≤ 800000) (ok : w.isS = true) (hs : Sm (.sum w a b c l)) (ne : fl (.sum w a b c l) ≠ []) :
    ∃ (s' : Sr) (g : Int → Int × Int), callN Γ m "_law_on_line" [.own o, .v (Say.sum w a b c l).t] = .rt (.fr (gO g)) [.own (retag o s'.ob), .v (Say.sum w a b c l).t] ∧ G3 g ∧ LA.SOk (k + 12) s' := by
  obtain ⟨n, rfl⟩ : ∃ n, m = n + 1 := ⟨m - 1, by omega⟩
  rw [callN_eq (c := fn__law_on_line) (k := []) rfl]
  generalize eq : Say.sum w a b c l = atom
  have K : Bd 9000 100 := (by decide : Bd 8 100).mono (by omega)
  have efree : callN Γ n "_law_free" [.v atom.t] = .rt (.v (.tuple (flT atom))) [.v atom.t] := by rw [← eq]; exact law_free hL _ n ok (by simp [Say.sz]; omega)
  obtain ⟨ts, s1, e1, len, fs, i1⟩ := lc_draw (i := 4) (E := (mCall (callN Γ n) "_law_small" [true] (mCons (mVar 0) mNil))) (fun s : Sr => [.own (.tg 0 s.ob), .v atom.t, .non, .non, .non, .non, .non, .non, .non, .non]) T.int (fun j s => LA.SOk (k + 2 * j) s) (fun t => ∃ p q, t = fr p q ∧ Red 20 p q) (fun _ => rfl) 3 [0, 1, 2] [] s 0 (by decide) h
    (fun j s x hj _ hs => by
      obtain ⟨s1, p, q, e1, r, o1⟩ := law_small (m := n) (by omega) hs (by omega)
      exact ⟨fr p q, s1, by simp_arith [e1], ⟨p, q, rfl, r⟩, o1.mono (by omega)⟩) (by decide)
  obtain ⟨x, y, z, rfl⟩ : ∃ a b c, ts = [a, b, c] := by
    match ts, len with
    | [a, b, c], _ => exact ⟨a, b, c, rfl⟩
  obtain ⟨p0, q0, rfl, r0⟩ := fs x (by simp)
  obtain ⟨p1, q1, rfl, r1⟩ := fs y (by simp)
  obtain ⟨p2, q2, rfl, r2⟩ := fs z (by simp)
  obtain ⟨g, hg, e1⟩ : ∃ g : Int → Int × Int, (∀ i, Red 20 (g i).1 (g i).2) ∧ lcL (bName 4) cYes ((mCall (callN Γ n) "_law_small" [true] (mCons (mVar 0) mNil))) [4] [] (rngTs 0 3) [.own (.tg 0 s.ob), .v atom.t, .non, .non, .non, .non, .non, .non, .non, .non] = .ok (.fr (gO g)) [.own (.tg 0 s1.ob), .v atom.t, .non, .non, .non, .non, .non, .non, .non, .non] := by
    refine ⟨fun i => if i = 0 then (p0, q0) else if i = 1 then (p1, q1) else (p2, q2), fun i => ?_, e1⟩
    simp only
    split
    · exact r0
    · split
      · exact r1
      · exact r2
  have hl : 0 < (fl atom).length := by
    rw [← eq]
    exact List.length_pos_iff.mpr ne
  have hl3 : (fl atom).length ≤ 3 := asc_len _
  obtain ⟨r3, s2, e2, a2, b2, o2⟩ := LA.pickT hA (m := n) (by omega) i1 (by simp; omega) (many := ((fl atom).length : Int)) (by omega) (K.of_le (by omega))
  obtain ⟨i, mi, ei⟩ := ix_ints (ks := fl atom) a2 b2
  have i03 := (fl_ok atom).2 i mi
  have hnz : co a b c i ≠ 0 := by
    rw [← eq] at mi
    exact nz_ne (mem_asc.mp mi).2
  have bc : ∀ j, Bd 200 (co a b c j) := fun j => co_bd ⟨hs.1, hs.2.1, hs.2.2.1⟩
  have eat : atom.t = .tuple [.str w.s, .tuple [.int a, .int b, .int c], .int l] := by rw [← eq]; rfl
  have x1 : ixF atom.t (.int 1) = some (.v (.tuple [.int a, .int b, .int c])) := by rw [eat]; rfl
  have x2 : ixF atom.t (.int 2) = some (.v (.int l)) := by rw [eat]; rfl
  obtain ⟨l1, b1⟩ := for_foldI (σ := (Int × Int) × Sl) (b := bName 7) (S := (mIfS (mTest (mOp neF (mVar 7) (mVar 4))) (mSeq (mSet 5 (mOp subF (mOp mulF (mVar 5) (mOp ixF (mOp ixF (mVar 2) (mVar 7)) (mK (.int 1)))) (mOp mulF (mOp mulF (mOp ixF (mOp ixF (mVar 1) (mK (.int 1))) (mVar 7)) (mOp ixF (mOp ixF (mVar 2) (mVar 7)) (mK (.int 0)))) (mVar 6))))
    (mSet 6 (mOp mulF (mVar 6) (mOp ixF (mOp ixF (mVar 2) (mVar 7)) (mK (.int 1)))))) mPass)) (fun z => [.own (.tg 0 s2.ob), .v atom.t, .own (gO g), .v (.tuple (flT atom)), .v (.int i), .v (.int z.1.1), .v (.int z.1.2), z.2, .non, .non]) T.int
    (fun z j => (if j = i then z.1 else (z.1.1 * (g j).2 - co a b c j * (g j).1 * z.1.2, z.1.2 * (g j).2), .v (.int j))) 3 (fun k z => Bd (300 + 30 * k) z.1.1 ∧ Bd (20 * k + 1) z.1.2 ∧ z.1.2 ≠ 0) (fl atom) 0 ((l, 1), .non) (by omega) ⟨hs.2.2.2.mono (by omega), (show Bd (20 * 0 + 1) 1 by decide), (by decide : (1 : Int) ≠ 0)⟩
    (fun k z hk p j m => by
      obtain ⟨⟨t, b'⟩, y⟩ := z
      obtain ⟨p1, p2, p3⟩ := p
      have p1 : Bd (300 + 30 * k) t := p1
      have p2 : Bd (20 * k + 1) b' := p2
      have p3 : b' ≠ 0 := p3
      have j03 := (fl_ok atom).2 j m
      have ix := ix_co a b c j03.1 j03.2
      have gx := gl_ix g j03.1 j03.2
      have r := hg j
      by_cases c1 : j = i
      · refine ⟨?_, by simp only [c1, if_true]; exact ⟨p1.mono (by omega), p2.mono (by omega), p3⟩⟩
        simp_arith [c1]
      · have m1 := mul_ok p1 r.bq (by omega)
        have m2 := mul_ok (bc j) r.bp
        have m3 := mul_ok ((bc j).mul r.bp) p2 (by omega)
        have m4 := mul_ok p2 r.bq (by omega)
        have q0 : (g j).2 ≠ 0 := by have := r.pos; omega
        refine ⟨?_, by
          simp only [c1, if_false]
          exact ⟨(((p1.mul r.bq).mono (by omega)).sub (k := 300 + 30 * k + 20) ((((bc j).mul r.bp).mul p2).mono (by omega))).mono (by omega), (p2.mul r.bq).mono (by omega), Int.mul_ne_zero p3 q0⟩⟩
        simp_arith [c1, gO_data, x1, ix, gx, gT0, gT1, m1, m2, m3, m4])
  generalize (fl atom).foldl _ _ = z at l1 b1
  obtain ⟨⟨top, bot⟩, y⟩ := z
  obtain ⟨bt, bb, bn⟩ := b1
  have bt : Bd 400 top := Bd.mono bt (by omega)
  have bb : Bd 100 bot := Bd.mono bb (by omega)
  have bn : bot ≠ 0 := bn
  obtain ⟨r4, s3, e3, a3, b3, o3⟩ := LA.pickT hA (m := n) (by omega) o2 (by simp; omega) (many := 3) (by omega) (K.of_le (by omega))
  obtain ⟨r5, s4, e4, a4, b4, o4⟩ := LA.pickT hA (m := n) (by omega) o3 (by simp; omega) (many := 6) (by omega) (K.of_le (by omega))
  have e5 := law_tens hL (m := n) (by omega) (r := 1 + r5) (by omega) (by omega)
  obtain ⟨kk, hkk⟩ : ∃ kk : Nat, (1 + r5).toNat = kk + 1 ∧ kk ≤ 5 := ⟨(1 + r5).toNat - 1, by omega⟩
  have bf : Bd 100 ((10 : Int) ^ (1 + r5).toNat) := by rw [hkk.1]; exact ((by decide : Bd 4 10).pow kk).mono (by omega)
  have nf : (10 : Int) ^ (1 + r5).toNat ≠ 0 := by have := pow_pos10 (1 + r5).toNat; omega
  generalize (10 : Int) ^ (1 + r5).toNat = far at e5 bf nf
  have bw : Bd 4 (r4 - 1) := (by decide : Bd 4 10).of_le (by omega)
  have xi := ix_co a b c i03.1 i03.2
  have m1 := mul_ok bt bf
  have m2 := mul_ok bw bb
  have m3 := mul_ok (bw.mul bb) (bc i)
  have m4 := mul_ok bb (bc i)
  have m5 := mul_ok (bb.mul (bc i)) bf
  have nn : bot * co a b c i * far ≠ 0 := Int.mul_ne_zero (Int.mul_ne_zero bn hnz) nf
  have bA : Bd 4000 (top * far + (r4 - 1) * bot * co a b c i) := (((bt.mul bf).mono (by omega)).add (k := 600) ((((bw.mul bb).mul (bc i))).mono (by omega))).mono (by omega)
  have bB : Bd 4000 (bot * co a b c i * far) := (((bb.mul (bc i)).mul bf)).mono (by omega)
  have e6 := LA.frac hA (m := n) (by omega) nn bA bB
  have rd := low_red nn bA bB
  have gs := gO_set g (lowP (top * far + (r4 - 1) * bot * co a b c i) (bot * co a b c i * far)) (lowQ (top * far + (r4 - 1) * bot * co a b c i) (bot * co a b c i * far)) i03.1 i03.2
  refine ⟨s4, gSet g i (lowP (top * far + (r4 - 1) * bot * co a b c i) (bot * co a b c i * far)) (lowQ (top * far + (r4 - 1) * bot * co a b c i) (bot * co a b c i * far)), ?_, fun j h0 h1 => ?_, o4.mono (by simp)⟩
  rotate_left
  · unfold gSet
    split
    · exact rd
    · exact (hg j).mono (by omega)
  have elen : ((flT atom).length : Int) = (fl atom).length := by simp [flT]
  rw [show (fl atom).map T.int = flT atom from rfl] at ei l1
  simp_arith [fn__law_on_line, cd__law_on_line, ho, e1, efree, elen, e2, ei, x1, x2, itemsOf, l1, e3, e4, e5, xi, m1, m2, m3, m4, m5, e6, gO_ty, gO_lo, gs]
  rfl
end K20
end P_M2

section P_M3
set_option Elab.async false
set_option linter.all false
set_option maxRecDepth 100000
set_option maxHeartbeats 1000000
namespace K20
open Ev SY LS
set_option autoImplicit false
local macro_rules
  | `(tactic| simp_arith [$args,*]) => `(tactic| simp only [at_bind, at_ok, at_er, at_no, at_var, at_k, at_op, at_un, at_lk, at_opt, at_nil, at_cons, at_b, at_lks0, at_lks1, at_test, at_toTs0, at_toTs1, at_toTv, at_toTf, at_toTl, at_notT, ltl0, ltl1, ltl2, ltl3, ltl4, ltl5, ltl6, ltl7, ltl8, ltl9, ltl10, ltl11, ltl12, ltl13, ltl14, ltl15, ltl16, at_andT, at_orT, at_if, at_andV, at_orV, at_chain, at_set, at_drop, at_ret, at_pass, at_brk, at_cnt, at_ifS, at_seq, at_putv, at_putf, at_tup, at_lst, at_call, at_callK, at_args0, at_args1, at_argb, at_argt, at_callA, at_unp, at_btup, at_blst, at_bnil, at_bcons, at_bname, at_isi, at_notV, at_par, at_stabs0, at_stabs1, at_stabv, at_stabf, at_puts0, at_puts1, at_daug, at_store, at_chk, at_getE, at_setO, at_modE, at_meth, at_for, at_sval, at_rng1, at_sl, at_po0, at_po1, at_lc, at_dct, at_clear0, at_clear1, at_lc0, at_nox, at_yes, at_for0, at_aft_nx, at_aft_ct, at_aft_bk, at_aft_rt, at_wip0, at_wip1, Bool.and_true, look, List.getElem?_cons_zero, List.getElem?_cons_succ, List.getElem?_nil, List.set_cons_zero, List.set_cons_succ, List.set_nil, List.length_cons, List.length_nil, List.length_map, List.cons_append, List.nil_append, List.length_set, addF, subF, negF, ltF, leF, gtF, geF, isF, isnF, isNF, gcdF, absF, intF, iaddF, isiF, isi, Option.map_some, Option.map_none, Option.bind_some, Ob.data, keyT, List.map_cons, List.map_nil, argsS, bIdx, back, likeA, List.nodup_nil, List.nodup_cons, List.not_mem_nil, not_false_eq_true, and_self, and_true, true_and, if_true, if_false, ite_true, ite_false, ↓reduceIte, Bool.not_true, Bool.not_false, Bool.false_eq_true, decide_true, decide_false, Ev.finish, endOf, retOf, leave, enter, tagA, Ev.strip, retag, List.replicate, Nat.reduceAdd, Nat.reduceSub, Nat.reduceLT, Nat.reduceLeDiff, Nat.reduceEqDiff, permL, liftO, liftG, Urn.ty, Urn.st, Urn.lg, Urn.lo, eq_self, Urn.rt, line0, line1, line2, line3, line4, line5, line6, line7, line8, line9, line10, line11, line12, line13, line14, line15, line16, Urn.g_cells, Urn.g_at, Urn.g_deep, Urn.g_mix, Urn.g_turn, Urn.d_at, Urn.d_turn, Urn.p_at, Urn.p_deep, Urn.p_mix, Urn.p_turn, eq_int, ne_int, eq_bool, ne_bool, ten18, ten15, lenF, runFn, obT, at_aug, at_mForI1, ite_app, bind_ite, Sr.ty, Sr.st, Sr.rt, Sr.lg, Sr.lo, Sr.g0, Sr.g1, Sr.g2, Sr.s0, Sr.s2, Sr.tst, Sr.trt, Int.natCast_one, Int.natCast_zero, Int.cast_ofNat_Int, Int.reduceEq, Int.reduceLT, Int.reduceLE, Int.reduceAdd, Int.reduceSub, Int.reduceMul, Int.reduceNeg, reduceCtorEq, Int.reducePow, Int.reduceToNat, $args,*])
  | `(tactic| simp_arith [$args,*] at $h:ident) => `(tactic| simp only [at_bind, at_ok, at_er, at_no, at_var, at_k, at_op, at_un, at_lk, at_opt, at_nil, at_cons, at_b, at_lks0, at_lks1, at_test, at_toTs0, at_toTs1, at_toTv, at_toTf, at_toTl, at_notT, ltl0, ltl1, ltl2, ltl3, ltl4, ltl5, ltl6, ltl7, ltl8, ltl9, ltl10, ltl11, ltl12, ltl13, ltl14, ltl15, ltl16, at_andT, at_orT, at_if, at_andV, at_orV, at_chain, at_set, at_drop, at_ret, at_pass, at_brk, at_cnt, at_ifS, at_seq, at_putv, at_putf, at_tup, at_lst, at_call, at_callK, at_args0, at_args1, at_argb, at_argt, at_callA, at_unp, at_btup, at_blst, at_bnil, at_bcons, at_bname, at_isi, at_notV, at_par, at_stabs0, at_stabs1, at_stabv, at_stabf, at_puts0, at_puts1, at_daug, at_store, at_chk, at_getE, at_setO, at_modE, at_meth, at_for, at_sval, at_rng1, at_sl, at_po0, at_po1, at_lc, at_dct, at_clear0, at_clear1, at_lc0, at_nox, at_yes, at_for0, at_aft_nx, at_aft_ct, at_aft_bk, at_aft_rt, at_wip0, at_wip1, Bool.and_true, look, List.getElem?_cons_zero, List.getElem?_cons_succ, List.getElem?_nil, List.set_cons_zero, List.set_cons_succ, List.set_nil, List.length_cons, List.length_nil, List.length_map, List.cons_append, List.nil_append, List.length_set, addF, subF, negF, ltF, leF, gtF, geF, isF, isnF, isNF, gcdF, absF, intF, iaddF, isiF, isi, Option.map_some, Option.map_none, Option.bind_some, Ob.data, keyT, List.map_cons, List.map_nil, argsS, bIdx, back, likeA, List.nodup_nil, List.nodup_cons, List.not_mem_nil, not_false_eq_true, and_self, and_true, true_and, if_true, if_false, ite_true, ite_false, ↓reduceIte, Bool.not_true, Bool.not_false, Bool.false_eq_true, decide_true, decide_false, Ev.finish, endOf, retOf, leave, enter, tagA, Ev.strip, retag, List.replicate, Nat.reduceAdd, Nat.reduceSub, Nat.reduceLT, Nat.reduceLeDiff, Nat.reduceEqDiff, permL, liftO, liftG, Urn.ty, Urn.st, Urn.lg, Urn.lo, eq_self, Urn.rt, line0, line1, line2, line3, line4, line5, line6, line7, line8, line9, line10, line11, line12, line13, line14, line15, line16, Urn.g_cells, Urn.g_at, Urn.g_deep, Urn.g_mix, Urn.g_turn, Urn.d_at, Urn.d_turn, Urn.p_at, Urn.p_deep, Urn.p_mix, Urn.p_turn, eq_int, ne_int, eq_bool, ne_bool, ten18, ten15, lenF, runFn, obT, at_aug, at_mForI1, ite_app, bind_ite, Sr.ty, Sr.st, Sr.rt, Sr.lg, Sr.lo, Sr.g0, Sr.g1, Sr.g2, Sr.s0, Sr.s2, Sr.tst, Sr.trt, Int.natCast_one, Int.natCast_zero, Int.cast_ofNat_Int, Int.reduceEq, Int.reduceLT, Int.reduceLE, Int.reduceAdd, Int.reduceSub, Int.reduceMul, Int.reduceNeg, reduceCtorEq, Int.reducePow, Int.reduceToNat, $args,*] at $h:ident)
abbrev st (sc pl : T) (s : Sr) (tn : T) (q o : Say) (asked : List T) (j : T) (x10 x11 x12 x13 x14 x15 x16 : Sl) : Sls :=
  [.v sc, .v pl, .own s.ob, .v tn, .v q.t, .v (.tuple (flT q)), .own (.lst ((sums q).map Say.t)), .own (.lst asked), .v o.t, .v j, x10, x11, x12, x13, x14, x15, x16, .non]
theorem three {F : T → Prop} {ts : List T} (l : ts.length = 3) (h : ∀ t ∈ ts, ∃ p q, t = fr p q ∧ Red 4000 p q) : ∃ g, G3 g ∧ ts = [gT g 0, gT g 1, gT g 2] := by
  obtain ⟨x, y, z, rfl⟩ : ∃ a b c, ts = [a, b, c] := by
    match ts, l with
    | [a, b, c], _ => exact ⟨a, b, c, rfl⟩
  obtain ⟨p0, q0, rfl, r0⟩ := h x (by simp)
  obtain ⟨p1, q1, rfl, r1⟩ := h y (by simp)
  obtain ⟨p2, q2, rfl, r2⟩ := h z (by simp)
  refine ⟨fun i => if i = 0 then (p0, q0) else if i = 1 then (p1, q1) else (p2, q2), fun i _ _ => ?_, rfl⟩
  simp only
  split
  · exact r0
  · split
    · exact r1
    · exact r2
section
variable {n k : Nat} (hn : 30 ≤ n) {sc pl tn : T} {q o : Say} {asked : List T} {j : Int} (hk : k ≤ 100000)
include hn hk
theorem a1 {s : Sr} (hs : LA.SOk k s) (x10 x11 x12 x13 x14 x15 x16 : Sl) : ∃ s' g, ((mSet 10 (mLc (sRng1 (mCons (mK (.int 3)) mNil)) (bName 17) cYes (mCall (callN Γ n) "_law_number" [true] (mCons (mVar 2) mNil)) [17]))) (st sc pl s tn q o asked (.int j) x10 x11 x12 x13 x14 x15 x16) = .ok .nx (st sc pl s' tn q o asked (.int j) (.own (gO g)) x11 x12 x13 x14 x15 x16) ∧ G3 g ∧ LA.SOk (k + 9) s' := by
  obtain ⟨ts, s1, e1, len, fs, i1⟩ := lc_draw (i := 17) (E := (mCall (callN Γ n) "_law_number" [true] (mCons (mVar 2) mNil))) (fun s : Sr => st sc pl s tn q o asked (.int j) x10 x11 x12 x13 x14 x15 x16) T.int (fun j s => LA.SOk (k + 3 * j) s) (fun t => ∃ p q, t = fr p q ∧ Red 4000 p q) (fun _ => rfl) 3 [0, 1, 2] [] s 0 (by decide) hs
    (fun j s x hj _ hs => by
      obtain ⟨s1, p, q, e1, r, o1⟩ := law_number hA hL (m := n) (o := s.ob) rfl (by omega) hs (by omega)
      have e1 : callN Γ n "_law_number" [.own s.ob] = .rt (.v (fr p q)) [.own s1.ob] := e1
      exact ⟨fr p q, s1, by simp_arith [st, e1], ⟨p, q, rfl, r⟩, o1.mono (by omega)⟩) (by decide)
  obtain ⟨g, hg, rfl⟩ := three (F := fun _ => True) len fs
  refine ⟨s1, g, ?_, hg, i1.mono (by simp)⟩
  rw [show ([0, 1, 2] : List Int).map T.int = rngTs 0 3 from rfl, List.nil_append] at e1
  simp only [st] at e1
  simp_arith [st, e1]
  rfl
theorem ix_says {l : List Say} {r : Int} (h0 : 0 ≤ r) (h1 : r < l.length) : ∃ p ∈ l, ixF (.list (l.map Say.t)) (.int r) = some (.v p.t) := by
  have h2 : r.toNat < l.length := by omega
  exact ⟨l[r.toNat], List.getElem_mem h2, by simp [ixF, L2.atI, L2.ixN, h0, h1, h2]⟩
theorem a2 {s : Sr} (hs : LA.SOk k s) {g : Int → Int × Int} (hg : G3 g) (hq : Gd 7 q) (x11 x12 x13 x14 x15 x16 : Sl) : ∃ s' g', ((mIfS (mAndT (mTest (mOp ltF (mVar 9) (mK (.int 4)))) (mTest (mOp neF (mVar 6) (mLst mNil)))) (mSet 10 (mCall (callN Γ n) "_law_on_line" [true, false] (mCons (mVar 2) (mCons (mOp ixF (mVar 6) (mCall (callN Γ n) "_law_pick" [true, false] (mCons (mVar 2) (mCons (mB lenF (mCons (mVar 6) mNil)) mNil)))) mNil)))) mPass)) (st sc pl s tn q o asked (.int j) (.own (gO g)) x11 x12 x13 x14 x15 x16) = .ok .nx (st sc pl s' tn q o asked (.int j) (.own (gO g')) x11 x12 x13 x14 x15 x16) ∧ G3 g' ∧ LA.SOk (k + 13) s' := by
  have K : Bd 9000 100 := (by decide : Bd 8 100).mono (by omega)
  have hl := sums_len q
  have hz := hq.sz
  have ne := ne_says (l := sums q) fun p m => by
    obtain ⟨⟨w, a, b, c, l, rfl⟩, _⟩ := mem_sums hq.ok hq.sm m
    simp [Say.sz]
  by_cases c1 : j < 4
  · cases em : (sums q).isEmpty with
    | true =>
      rw [em] at ne
      exact ⟨s, g, by simp_arith [st, c1, ne], hg, hs.mono (by omega)⟩
    | false =>
      rw [em] at ne
      have hp : 0 < (sums q).length := by
        cases z : sums q with
        | nil => rw [z] at em; cases em
        | cons _ _ => simp
      obtain ⟨r, s1, e1, a1, b1, o1⟩ := LA.pickO hA (m := n) (by omega) hs (by omega) (many := ((sums q).length : Int)) (by omega) (K.of_le (by omega))
      obtain ⟨p, mp, ip⟩ := ix_says hn hk (l := sums q) a1 b1
      obtain ⟨⟨w, a, b, c, l, rfl⟩, ok, sm, nf⟩ := mem_sums hq.ok hq.sm mp
      obtain ⟨s2, g', e2, hg', o2⟩ := law_on_line (m := n) (o := s1.ob) rfl (by omega) o1 (by omega) ok sm nf
      have e2 : callN Γ n "_law_on_line" [.own s1.ob, .v (Say.sum w a b c l).t] = .rt (.fr (gO g')) [.own s2.ob, .v (Say.sum w a b c l).t] := e2
      exact ⟨s2, g', by simp_arith [st, c1, ne, e1, ip, e2], hg', o2.mono (by omega)⟩
  · exact ⟨s, g, by simp_arith [st, c1], hg, hs.mono (by omega)⟩
theorem a3 {s : Sr} (hs : LA.SOk k s) {g : Int → Int × Int} (hg : G3 g) (x11 x12 x13 x14 x15 x16 : Sl) : ∃ s' g', ((mIfS (mTest (mOp gtF (mVar 9) (mK (.int 5)))) (mSet 10 (mLc (sRng1 (mCons (mK (.int 3)) mNil)) (bName 17) cYes (mTup (mCons (mOp subF (mCall (callN Γ n) "_law_pick" [true, false] (mCons (mVar 2) (mCons (mK (.int 25)) mNil))) (mK (.int 12))) (mCons (mK (.int 1)) mNil))) [17])) mPass)) (st sc pl s tn q o asked (.int j) (.own (gO g)) x11 x12 x13 x14 x15 x16) = .ok .nx (st sc pl s' tn q o asked (.int j) (.own (gO g')) x11 x12 x13 x14 x15 x16) ∧ G3 g' ∧ LA.SOk (k + 3) s' := by
  have K : Bd 9000 100 := (by decide : Bd 8 100).mono (by omega)
  by_cases c1 : 5 < j
  · obtain ⟨ts, s1, e1, len, fs, i1⟩ := lc_draw (i := 17) (E := (mTup (mCons (mOp subF (mCall (callN Γ n) "_law_pick" [true, false] (mCons (mVar 2) (mCons (mK (.int 25)) mNil))) (mK (.int 12))) (mCons (mK (.int 1)) mNil)))) (fun s : Sr => st sc pl s tn q o asked (.int j) (.own (gO g)) x11 x12 x13 x14 x15 x16) T.int (fun j s => LA.SOk (k + 1 * j) s) (fun t => ∃ p q, t = fr p q ∧ Red 4000 p q) (fun _ => rfl) 3 [0, 1, 2] [] s 0 (by decide) hs
      (fun j s x hj _ hs => by
        obtain ⟨r, s1, e1, a1, b1, o1⟩ := LA.pickO hA (m := n) (by omega) hs (by omega) (many := 25) (by omega) (K.of_le (by omega))
        exact ⟨fr (r - 12) 1, s1, by simp_arith [st, e1], ⟨_, _, rfl, red_int _ (((by decide : Bd 8 100).of_le (by omega)).mono (by omega))⟩, o1.mono (by omega)⟩) (by decide)
    obtain ⟨g', hg', rfl⟩ := three (F := fun _ => True) len fs
    refine ⟨s1, g', ?_, hg', i1.mono (by simp)⟩
    rw [show ([0, 1, 2] : List Int).map T.int = rngTs 0 3 from rfl, List.nil_append] at e1
    simp only [st] at e1
    simp_arith [st, c1, e1]
    rfl
  · exact ⟨s, g, by simp_arith [st, c1], hg, hs.mono (by omega)⟩
abbrev nT (g : Int → Int × Int) (q : Say) : T := .tuple ((fl q).map (gT g))
theorem same1 (b : Bool) : callN Γ n "_law_same" [.v (.bool b), .v (.bool b)] = .rt (.v (.bool true)) [.v (.bool b), .v (.bool b)] := LA.same_refl hA 1 n _ trivial (by omega)
theorem same2 (b c : Bool) : callN Γ n "_law_same" [.v (.list [.bool b, .bool c]), .v (.list [.bool b, .bool c])] = .rt (.v (.bool true)) [.v (.list [.bool b, .bool c]), .v (.list [.bool b, .bool c])] := LA.same_refl hA 2 n _ ⟨(by decide : (2 : Nat) ≤ PySem.sizeLine), fun t m => by
  simp only [List.mem_cons, List.not_mem_nil, or_false] at m
  rcases m with rfl | rfl <;> trivial⟩ (by omega)
theorem a4 {s : Sr} (hs : LA.SOk k s) {g : Int → Int × Int} (hg : G3 g) (hq : Gd 7 q) (ho : Gd 1 o) (ha : asked.length ≤ 100) (x11 x12 x13 x14 x15 x16 : Sl) : ∃ s' y10 y13 y14 y15 y16, ((mSeq (mPar [11, 12] (mCons (mB tupleF (mCons (mLc (sVal (mVar 5)) (bName 17) cYes (mOp ixF (mVar 10) (mVar 17)) [17]) mNil)) (mCons (mCall (callN Γ n) "_law_holds" [false, false] (mCons (mVar 4) (mCons (mVar 10) mNil))) mNil)))
    (mSeq (mIfS (mNotT (mTest (mCall (callN Γ n) "_law_same" [false, false] (mCons (mLst (mCons (mCall (callN Γ n) "true_at" [false, false] (mCons (mVar 4) (mCons (mVar 11) mNil))) (mCons (mCallK (callN Γ n) "true_at" [false, false] [1, 0] (mCons (mVar 11) (mCons (mVar 4) mNil))) mNil))) (mCons (mLst (mCons (mVar 12) (mCons (mVar 12) mNil))) mNil))))) (mRet (mK (.bool false))) mPass)
    (mSeq (mIfS (mNotT (mTest (mCall (callN Γ n) "_law_same" [false, false] (mCons (mCall (callN Γ n) "true_at" [false, false] (mCons (mTup (mCons (mK (.str "not")) (mCons (mVar 4) mNil))) (mCons (mVar 11) mNil))) (mCons (mNotV (mVar 12)) mNil))))) (mRet (mK (.bool false))) mPass)
    (mSeq (mSet 13 (mIf (mTest (mOp eqF (mCall (callN Γ n) "_law_pick" [true, false] (mCons (mVar 2) (mCons (mK (.int 2)) mNil))) (mK (.int 0)))) (mTup (mCons (mVar 4) (mCons (mVar 8) mNil))) (mTup (mCons (mVar 8) (mCons (mVar 4) mNil)))))
    (mSeq (mSet 14 (mB tupleF (mCons (mLc (sVal (mCall (callN Γ n) "_law_free" [false] (mCons (mOp addF (mTup (mCons (mK (.str "both")) mNil)) (mVar 13)) mNil))) (bName 17) cYes (mOp ixF (mVar 10) (mVar 17)) [17]) mNil)))
    (mSeq (mSet 15 (mCall (callN Γ n) "_law_holds" [false, false] (mCons (mVar 8) (mCons (mVar 10) mNil))))
    (mSeq (mSet 16 (mLst (mCons (mCall (callN Γ n) "true_at" [false, false] (mCons (mOp addF (mTup (mCons (mK (.str "both")) mNil)) (mVar 13)) (mCons (mVar 14) mNil))) (mCons (mCall (callN Γ n) "true_at" [false, false] (mCons (mOp addF (mTup (mCons (mK (.str "either")) mNil)) (mVar 13)) (mCons (mVar 14) mNil))) mNil))))
    (mSeq (mIfS (mNotT (mTest (mCall (callN Γ n) "_law_same" [false, false] (mCons (mVar 16) (mCons (mLst (mCons (mAndV (mVar 12) (mVar 15)) (mCons (mOrV (mVar 12) (mVar 15)) mNil))) mNil))))) (mRet (mK (.bool false))) mPass)
    (mDrop (mMeth 7 "list" appF (mCons (mTup (mCons (mVar 11) (mCons (mVar 12) mNil))) mNil)))))))))))) (st sc pl s tn q o asked (.int j) (.own (gO g)) x11 x12 x13 x14 x15 x16) = .ok .nx (st sc pl s' tn q o (asked ++ [.tuple [nT g q, .bool (holds g q)]]) (.int j) y10 (.v (nT g q)) (.v (.bool (holds g q))) y13 y14 y15 y16) ∧ LA.SOk (k + 1) s' := by
  have hz := hq.sz
  have oz := ho.sz
  have big : (3 : Nat) ≤ PySem.sizeLine := by decide
  have l1 := lc_map (i := 17) (env := st sc pl s tn q o asked (.int j) (.own (gO g)) x11 x12 x13 x14 x15 x16) (E := (mOp ixF (mVar 10) (mVar 17))) rfl T.int (gT g) (fl q) (fun i m => by
    have gx := gl_ix g ((fl_ok q).2 i m).1 ((fl_ok q).2 i m).2
    simp_arith [st, gO_data, gx]) (Nat.le_trans (asc_len _) big)
  rw [show (fl q).map T.int = flT q from rfl] at l1
  simp only [st] at l1
  have eh := law_holds hL hg q n hq.ok hq.plain hq.sm (by omega)
  have eo := law_holds hL hg o n ho.ok ho.plain ho.sm (by omega)
  have et := r_true_at hS (m := n) hq.ok hq.plain hq.sm (hg.ok (fv q)) (by omega) (by omega)
  have en : callN Γ n "true_at" [.v (.tuple [.str "not", q.t]), .v (nT g q)] = .rt (.v (.bool (!holds g q))) [.v (.tuple [.str "not", q.t]), .v (nT g q)] :=
    r_true_at hS (m := n) (s := .neg q) hq.ok hq.plain hq.sm (hg.ok (fv q)) (by simp only [Say.sz]; omega) (by simp only [Say.sz]; omega)
  obtain ⟨r, s1, e1, a1, b1, o1⟩ := LA.pickO hA (m := n) (by omega) hs (by omega) (many := 2) (by omega) ((by decide : Bd 2 2).mono (by omega))
  have pr : ∀ u v : Say, Gd 7 u → Gd 7 v → callN Γ n "_law_free" [.v (.tuple [.str "both", u.t, v.t])] = .rt (.v (.tuple (flT (.two .both u v)))) [.v (.tuple [.str "both", u.t, v.t])] ∧
      callN Γ n "true_at" [.v (.tuple [.str "both", u.t, v.t]), .v (nT g (.two .both u v))] = .rt (.v (.bool (holds g u && holds g v))) [.v (.tuple [.str "both", u.t, v.t]), .v (nT g (.two .both u v))] ∧
      callN Γ n "true_at" [.v (.tuple [.str "either", u.t, v.t]), .v (nT g (.two .both u v))] = .rt (.v (.bool (holds g u || holds g v))) [.v (.tuple [.str "either", u.t, v.t]), .v (nT g (.two .both u v))] := fun u v hu hv => by
    have uz := hu.sz
    have vz := hv.sz
    refine ⟨law_free hL (.two .both u v) n ⟨rfl, hu.ok, hv.ok⟩ (by simp only [Say.sz]; omega), ?_, ?_⟩
    · exact r_true_at hS (m := n) (s := .two .both u v) ⟨rfl, hu.ok, hv.ok⟩ (by simp [plain, hu.plain, hv.plain]) ⟨hu.sm, hv.sm⟩ (hg.ok _) (by simp only [Say.sz]; omega) (by simp only [Say.sz]; omega)
    · exact r_true_at hS (m := n) (s := .two .either u v) ⟨rfl, hu.ok, hv.ok⟩ (by simp [plain, hu.plain, hv.plain]) ⟨hu.sm, hv.sm⟩ (hg.ok _) (by simp only [Say.sz]; omega) (by simp only [Say.sz]; omega)
  have ho7 : Gd 7 o := ⟨ho.ok, ho.plain, ho.sm, by omega⟩
  have lb := fun (u v : Say) (w13 : T) => lc_map (i := 17) (env := [.v sc, .v pl, .own s1.ob, .v tn, .v q.t, .v (.tuple (flT q)), .own (.lst ((sums q).map Say.t)), .own (.lst asked), .v o.t, .v (.int j), .v (gl g), .v (nT g q), .v (.bool (holds g q)), .v w13, x14, x15, x16, .non]) (E := (mOp ixF (mVar 10) (mVar 17))) rfl T.int (gT g) (fl (.two .both u v)) (fun i m => by
    have gx := gl_ix g ((fl_ok (.two .both u v)).2 i m).1 ((fl_ok (.two .both u v)).2 i m).2
    simp_arith [gx]) (Nat.le_trans (asc_len _) big)
  have lbT : ∀ u v : Say, (fl (.two .both u v)).map T.int = flT (.two .both u v) := fun _ _ => rfl
  simp only [lbT] at lb
  have al : asked.length < PySem.sizeLine := Nat.lt_of_le_of_lt ha (by decide)
  have s2 := same2 hn hk
  have s1' := same1 hn hk
  have ap : ∀ t : T, appF [t] (.lst asked) = some (.lst (asked ++ [t]), .none) := fun t => if_pos al
  have cr : r = 0 ∨ r = 1 := by omega
  rcases cr with rfl | rfl
  · have p := pr q o hq ho7
    have lb := lb q o (.tuple [q.t, o.t])
    generalize holds g q = b at eh et en lb p ⊢
    refine ⟨s1, .v (gl g), .v (.tuple [q.t, o.t]), .v (nT g (.two .both q o)), .v (.bool (holds g o)), .v (.list [.bool (b && holds g o), .bool (b || holds g o)]), ?_, o1⟩
    cases b with
    | true => simp_arith [st, itemsOf, l1, tupleF, gO_data, eh, eo, et, en, s2, s1', e1, p.1, p.2.1, p.2.2, lb, lift_lst, ap, Bool.true_and, Bool.true_or]
    | false => simp_arith [st, itemsOf, l1, tupleF, gO_data, eh, eo, et, en, s2, s1', e1, p.1, p.2.1, p.2.2, lb, lift_lst, ap, Bool.false_and, Bool.false_or]
  · have p := pr o q ho7 hq
    have lb := lb o q (.tuple [o.t, q.t])
    generalize holds g q = b at eh et en lb p ⊢
    refine ⟨s1, .v (gl g), .v (.tuple [o.t, q.t]), .v (nT g (.two .both o q)), .v (.bool (holds g o)), .v (.list [.bool (holds g o && b), .bool (holds g o || b)]), ?_, o1⟩
    have z : (1 : Int) = 0 ↔ False := by decide
    cases b with
    | true => simp_arith [st, itemsOf, l1, tupleF, gO_data, eh, eo, et, en, s2, s1', e1, z, p.1, p.2.1, p.2.2, lb, lift_lst, ap, Bool.and_true, Bool.or_true]
    | false => simp_arith [st, itemsOf, l1, tupleF, gO_data, eh, eo, et, en, s2, s1', e1, z, p.1, p.2.1, p.2.2, lb, lift_lst, ap, Bool.and_false, Bool.or_false]
end
end K20
end P_M3

section P_M4
set_option Elab.async false
set_option linter.all false
set_option maxRecDepth 100000
set_option maxHeartbeats 1000000
namespace K20
open Ev SY LS
set_option autoImplicit false
local macro_rules
  | `(tactic| simp_arith [$args,*]) => `(tactic| simp only [at_bind, at_ok, at_er, at_no, at_var, at_k, at_op, at_un, at_lk, at_opt, at_nil, at_cons, at_b, at_lks0, at_lks1, at_test, at_toTs0, at_toTs1, at_toTv, at_toTf, at_toTl, at_notT, ltl0, ltl1, ltl2, ltl3, ltl4, ltl5, ltl6, ltl7, ltl8, ltl9, ltl10, ltl11, ltl12, ltl13, ltl14, ltl15, ltl16, at_andT, at_orT, at_if, at_andV, at_orV, at_chain, at_set, at_drop, at_ret, at_pass, at_brk, at_cnt, at_ifS, at_seq, at_putv, at_putf, at_tup, at_lst, at_call, at_callK, at_args0, at_args1, at_argb, at_argt, at_callA, at_unp, at_btup, at_blst, at_bnil, at_bcons, at_bname, at_isi, at_notV, at_par, at_stabs0, at_stabs1, at_stabv, at_stabf, at_puts0, at_puts1, at_daug, at_store, at_chk, at_getE, at_setO, at_modE, at_meth, at_for, at_sval, at_rng1, at_sl, at_po0, at_po1, at_lc, at_dct, at_clear0, at_clear1, at_lc0, at_nox, at_yes, at_for0, at_aft_nx, at_aft_ct, at_aft_bk, at_aft_rt, at_wip0, at_wip1, Bool.and_true, look, List.getElem?_cons_zero, List.getElem?_cons_succ, List.getElem?_nil, List.set_cons_zero, List.set_cons_succ, List.set_nil, List.length_cons, List.length_nil, List.length_map, List.cons_append, List.nil_append, List.length_set, addF, subF, negF, ltF, leF, gtF, geF, isF, isnF, isNF, gcdF, absF, intF, iaddF, isiF, isi, Option.map_some, Option.map_none, Option.bind_some, Ob.data, keyT, List.map_cons, List.map_nil, argsS, bIdx, back, likeA, List.nodup_nil, List.nodup_cons, List.not_mem_nil, not_false_eq_true, and_self, and_true, true_and, if_true, if_false, ite_true, ite_false, ↓reduceIte, Bool.not_true, Bool.not_false, Bool.false_eq_true, decide_true, decide_false, Ev.finish, endOf, retOf, leave, enter, tagA, Ev.strip, retag, List.replicate, Nat.reduceAdd, Nat.reduceSub, Nat.reduceLT, Nat.reduceLeDiff, Nat.reduceEqDiff, permL, liftO, liftG, Urn.ty, Urn.st, Urn.lg, Urn.lo, eq_self, Urn.rt, line0, line1, line2, line3, line4, line5, line6, line7, line8, line9, line10, line11, line12, line13, line14, line15, line16, Urn.g_cells, Urn.g_at, Urn.g_deep, Urn.g_mix, Urn.g_turn, Urn.d_at, Urn.d_turn, Urn.p_at, Urn.p_deep, Urn.p_mix, Urn.p_turn, eq_int, ne_int, eq_bool, ne_bool, ten18, ten15, lenF, runFn, obT, at_aug, at_mForI1, ite_app, bind_ite, Sr.ty, Sr.st, Sr.rt, Sr.lg, Sr.lo, Sr.g0, Sr.g1, Sr.g2, Sr.s0, Sr.s2, Sr.tst, Sr.trt, Int.natCast_one, Int.natCast_zero, Int.cast_ofNat_Int, Int.reduceEq, Int.reduceLT, Int.reduceLE, Int.reduceAdd, Int.reduceSub, Int.reduceMul, Int.reduceNeg, reduceCtorEq, Int.reducePow, Int.reduceToNat, $args,*])
  | `(tactic| simp_arith [$args,*] at $h:ident) => `(tactic| simp only [at_bind, at_ok, at_er, at_no, at_var, at_k, at_op, at_un, at_lk, at_opt, at_nil, at_cons, at_b, at_lks0, at_lks1, at_test, at_toTs0, at_toTs1, at_toTv, at_toTf, at_toTl, at_notT, ltl0, ltl1, ltl2, ltl3, ltl4, ltl5, ltl6, ltl7, ltl8, ltl9, ltl10, ltl11, ltl12, ltl13, ltl14, ltl15, ltl16, at_andT, at_orT, at_if, at_andV, at_orV, at_chain, at_set, at_drop, at_ret, at_pass, at_brk, at_cnt, at_ifS, at_seq, at_putv, at_putf, at_tup, at_lst, at_call, at_callK, at_args0, at_args1, at_argb, at_argt, at_callA, at_unp, at_btup, at_blst, at_bnil, at_bcons, at_bname, at_isi, at_notV, at_par, at_stabs0, at_stabs1, at_stabv, at_stabf, at_puts0, at_puts1, at_daug, at_store, at_chk, at_getE, at_setO, at_modE, at_meth, at_for, at_sval, at_rng1, at_sl, at_po0, at_po1, at_lc, at_dct, at_clear0, at_clear1, at_lc0, at_nox, at_yes, at_for0, at_aft_nx, at_aft_ct, at_aft_bk, at_aft_rt, at_wip0, at_wip1, Bool.and_true, look, List.getElem?_cons_zero, List.getElem?_cons_succ, List.getElem?_nil, List.set_cons_zero, List.set_cons_succ, List.set_nil, List.length_cons, List.length_nil, List.length_map, List.cons_append, List.nil_append, List.length_set, addF, subF, negF, ltF, leF, gtF, geF, isF, isnF, isNF, gcdF, absF, intF, iaddF, isiF, isi, Option.map_some, Option.map_none, Option.bind_some, Ob.data, keyT, List.map_cons, List.map_nil, argsS, bIdx, back, likeA, List.nodup_nil, List.nodup_cons, List.not_mem_nil, not_false_eq_true, and_self, and_true, true_and, if_true, if_false, ite_true, ite_false, ↓reduceIte, Bool.not_true, Bool.not_false, Bool.false_eq_true, decide_true, decide_false, Ev.finish, endOf, retOf, leave, enter, tagA, Ev.strip, retag, List.replicate, Nat.reduceAdd, Nat.reduceSub, Nat.reduceLT, Nat.reduceLeDiff, Nat.reduceEqDiff, permL, liftO, liftG, Urn.ty, Urn.st, Urn.lg, Urn.lo, eq_self, Urn.rt, line0, line1, line2, line3, line4, line5, line6, line7, line8, line9, line10, line11, line12, line13, line14, line15, line16, Urn.g_cells, Urn.g_at, Urn.g_deep, Urn.g_mix, Urn.g_turn, Urn.d_at, Urn.d_turn, Urn.p_at, Urn.p_deep, Urn.p_mix, Urn.p_turn, eq_int, ne_int, eq_bool, ne_bool, ten18, ten15, lenF, runFn, obT, at_aug, at_mForI1, ite_app, bind_ite, Sr.ty, Sr.st, Sr.rt, Sr.lg, Sr.lo, Sr.g0, Sr.g1, Sr.g2, Sr.s0, Sr.s2, Sr.tst, Sr.trt, Int.natCast_one, Int.natCast_zero, Int.cast_ofNat_Int, Int.reduceEq, Int.reduceLT, Int.reduceLE, Int.reduceAdd, Int.reduceSub, Int.reduceMul, Int.reduceNeg, reduceCtorEq, Int.reducePow, Int.reduceToNat, $args,*] at $h:ident)
section
variable {n k : Nat} (hn : 30 ≤ n) {sc pl tn : T} {q o : Say} {asked : List T} {j : Int} (hk : k ≤ 60000)
include hn hk
theorem step_ok {s : Sr} (hs : LA.SOk k s) (hq : Gd 7 q) (ho : Gd 1 o) (ha : asked.length ≤ 100) (x10 x11 x12 x13 x14 x15 x16 : Sl) : ∃ s' g y10 y13 y14 y15 y16, ((mSeq (mSet 10 (mLc (sRng1 (mCons (mK (.int 3)) mNil)) (bName 17) cYes (mCall (callN Γ n) "_law_number" [true] (mCons (mVar 2) mNil)) [17]))
    (mSeq (mIfS (mAndT (mTest (mOp ltF (mVar 9) (mK (.int 4)))) (mTest (mOp neF (mVar 6) (mLst mNil)))) (mSet 10 (mCall (callN Γ n) "_law_on_line" [true, false] (mCons (mVar 2) (mCons (mOp ixF (mVar 6) (mCall (callN Γ n) "_law_pick" [true, false] (mCons (mVar 2) (mCons (mB lenF (mCons (mVar 6) mNil)) mNil)))) mNil)))) mPass)
    (mSeq (mIfS (mTest (mOp gtF (mVar 9) (mK (.int 5)))) (mSet 10 (mLc (sRng1 (mCons (mK (.int 3)) mNil)) (bName 17) cYes (mTup (mCons (mOp subF (mCall (callN Γ n) "_law_pick" [true, false] (mCons (mVar 2) (mCons (mK (.int 25)) mNil))) (mK (.int 12))) (mCons (mK (.int 1)) mNil))) [17])) mPass)
    (mSeq (mPar [11, 12] (mCons (mB tupleF (mCons (mLc (sVal (mVar 5)) (bName 17) cYes (mOp ixF (mVar 10) (mVar 17)) [17]) mNil)) (mCons (mCall (callN Γ n) "_law_holds" [false, false] (mCons (mVar 4) (mCons (mVar 10) mNil))) mNil)))
    (mSeq (mIfS (mNotT (mTest (mCall (callN Γ n) "_law_same" [false, false] (mCons (mLst (mCons (mCall (callN Γ n) "true_at" [false, false] (mCons (mVar 4) (mCons (mVar 11) mNil))) (mCons (mCallK (callN Γ n) "true_at" [false, false] [1, 0] (mCons (mVar 11) (mCons (mVar 4) mNil))) mNil))) (mCons (mLst (mCons (mVar 12) (mCons (mVar 12) mNil))) mNil))))) (mRet (mK (.bool false))) mPass)
    (mSeq (mIfS (mNotT (mTest (mCall (callN Γ n) "_law_same" [false, false] (mCons (mCall (callN Γ n) "true_at" [false, false] (mCons (mTup (mCons (mK (.str "not")) (mCons (mVar 4) mNil))) (mCons (mVar 11) mNil))) (mCons (mNotV (mVar 12)) mNil))))) (mRet (mK (.bool false))) mPass)
    (mSeq (mSet 13 (mIf (mTest (mOp eqF (mCall (callN Γ n) "_law_pick" [true, false] (mCons (mVar 2) (mCons (mK (.int 2)) mNil))) (mK (.int 0)))) (mTup (mCons (mVar 4) (mCons (mVar 8) mNil))) (mTup (mCons (mVar 8) (mCons (mVar 4) mNil)))))
    (mSeq (mSet 14 (mB tupleF (mCons (mLc (sVal (mCall (callN Γ n) "_law_free" [false] (mCons (mOp addF (mTup (mCons (mK (.str "both")) mNil)) (mVar 13)) mNil))) (bName 17) cYes (mOp ixF (mVar 10) (mVar 17)) [17]) mNil)))
    (mSeq (mSet 15 (mCall (callN Γ n) "_law_holds" [false, false] (mCons (mVar 8) (mCons (mVar 10) mNil))))
    (mSeq (mSet 16 (mLst (mCons (mCall (callN Γ n) "true_at" [false, false] (mCons (mOp addF (mTup (mCons (mK (.str "both")) mNil)) (mVar 13)) (mCons (mVar 14) mNil))) (mCons (mCall (callN Γ n) "true_at" [false, false] (mCons (mOp addF (mTup (mCons (mK (.str "either")) mNil)) (mVar 13)) (mCons (mVar 14) mNil))) mNil))))
    (mSeq (mIfS (mNotT (mTest (mCall (callN Γ n) "_law_same" [false, false] (mCons (mVar 16) (mCons (mLst (mCons (mAndV (mVar 12) (mVar 15)) (mCons (mOrV (mVar 12) (mVar 15)) mNil))) mNil))))) (mRet (mK (.bool false))) mPass)
    (mDrop (mMeth 7 "list" appF (mCons (mTup (mCons (mVar 11) (mCons (mVar 12) mNil))) mNil))))))))))))))) (st sc pl s tn q o asked (.int j) x10 x11 x12 x13 x14 x15 x16) = .ok .nx (st sc pl s' tn q o (asked ++ [.tuple [nT g q, .bool (holds g q)]]) (.int j) y10 (.v (nT g q)) (.v (.bool (holds g q))) y13 y14 y15 y16) ∧ G3 g ∧ LA.SOk (k + 26) s' := by
  obtain ⟨s1, g1, e1, hg1, o1⟩ := a1 hn (by omega) (sc := sc) (pl := pl) (tn := tn) (q := q) (o := o) (asked := asked) (j := j) hs x10 x11 x12 x13 x14 x15 x16
  obtain ⟨s2, g2, e2, hg2, o2⟩ := a2 hn (by omega) (sc := sc) (pl := pl) (tn := tn) (q := q) (o := o) (asked := asked) (j := j) o1 hg1 hq x11 x12 x13 x14 x15 x16
  obtain ⟨s3, g3, e3, hg3, o3⟩ := a3 hn (by omega) (sc := sc) (pl := pl) (tn := tn) (q := q) (o := o) (asked := asked) (j := j) o2 hg2 x11 x12 x13 x14 x15 x16
  obtain ⟨s4, y10, y13, y14, y15, y16, e4, o4⟩ := a4 hn (by omega) (sc := sc) (pl := pl) (tn := tn) (q := q) (o := o) (asked := asked) (j := j) o3 hg3 hq ho ha x11 x12 x13 x14 x15 x16
  exact ⟨s4, g3, y10, y13, y14, y15, y16, (seq_ok e1).trans ((seq_ok e2).trans ((seq_ok e3).trans e4)), hg3, o4.mono (by omega)⟩
def AskOk (q : Say) (t : T) : Prop := ∃ g, G3 g ∧ t = .tuple [nT g q, .bool (holds g q)]
omit hn hk in
theorem size_ok {r : Int} (h0 : 0 ≤ r) (h1 : r < 3) : ∃ z : Int, ixF (.list [.int 1, .int 3, .int 20]) (.int r) = some (.v (.int z)) ∧ 0 ≤ z ∧ z ≤ 1000 := by
  have : r = 0 ∨ r = 1 ∨ r = 2 := by omega
  rcases this with rfl | rfl | rfl
  · exact ⟨1, rfl, by omega, by omega⟩
  · exact ⟨3, rfl, by omega, by omega⟩
  · exact ⟨20, rfl, by omega, by omega⟩
theorem turn_ok (hk2 : k ≤ 50000) {s : Sr} (hs : LA.SOk k s) (x4 x5 x6 x7 x8 x9 x10 x11 x12 x13 x14 x15 x16 : Sl) : ∃ s' y4 y5 y6 y7 y8 y9 y10 y11 y12 y13 y14 y15 y16, ((mSeq (mSet 4 (mCall (callN Γ n) "_law_saying" [true, false, false, false, false] (mCons (mVar 2) (mCons (mOp addF (mK (.int 1)) (mCall (callN Γ n) "_law_pick" [true, false] (mCons (mVar 2) (mCons (mK (.int 7)) mNil)))) (mCons (mLst (mCons (mK (.int 0)) mNil)) (mCons (mOp ixF (mLst (mCons (mK (.int 1)) (mCons (mK (.int 3)) (mCons (mK (.int 20)) mNil)))) (mCall (callN Γ n) "_law_pick" [true, false] (mCons (mVar 2) (mCons (mK (.int 3)) mNil)))) (mCons (mK (.int 20)) mNil)))))))
    (mSeq (mPar [5, 6, 7] (mCons (mCall (callN Γ n) "_law_free" [false] (mCons (mVar 4) mNil)) (mCons (mCall (callN Γ n) "_law_sums" [false] (mCons (mVar 4) mNil)) (mCons (mLst mNil) mNil))))
    (mSeq (mSet 8 (mCall (callN Γ n) "_law_atom" [true, false, false] (mCons (mVar 2) (mCons (mK (.int 3)) (mCons (mK (.int 9)) mNil)))))
    (mSeq (mFor (sRng1 (mCons (mK (.int 8)) mNil)) (bName 9) (mSeq (mSet 10 (mLc (sRng1 (mCons (mK (.int 3)) mNil)) (bName 17) cYes (mCall (callN Γ n) "_law_number" [true] (mCons (mVar 2) mNil)) [17]))
    (mSeq (mIfS (mAndT (mTest (mOp ltF (mVar 9) (mK (.int 4)))) (mTest (mOp neF (mVar 6) (mLst mNil)))) (mSet 10 (mCall (callN Γ n) "_law_on_line" [true, false] (mCons (mVar 2) (mCons (mOp ixF (mVar 6) (mCall (callN Γ n) "_law_pick" [true, false] (mCons (mVar 2) (mCons (mB lenF (mCons (mVar 6) mNil)) mNil)))) mNil)))) mPass)
    (mSeq (mIfS (mTest (mOp gtF (mVar 9) (mK (.int 5)))) (mSet 10 (mLc (sRng1 (mCons (mK (.int 3)) mNil)) (bName 17) cYes (mTup (mCons (mOp subF (mCall (callN Γ n) "_law_pick" [true, false] (mCons (mVar 2) (mCons (mK (.int 25)) mNil))) (mK (.int 12))) (mCons (mK (.int 1)) mNil))) [17])) mPass)
    (mSeq (mPar [11, 12] (mCons (mB tupleF (mCons (mLc (sVal (mVar 5)) (bName 17) cYes (mOp ixF (mVar 10) (mVar 17)) [17]) mNil)) (mCons (mCall (callN Γ n) "_law_holds" [false, false] (mCons (mVar 4) (mCons (mVar 10) mNil))) mNil)))
    (mSeq (mIfS (mNotT (mTest (mCall (callN Γ n) "_law_same" [false, false] (mCons (mLst (mCons (mCall (callN Γ n) "true_at" [false, false] (mCons (mVar 4) (mCons (mVar 11) mNil))) (mCons (mCallK (callN Γ n) "true_at" [false, false] [1, 0] (mCons (mVar 11) (mCons (mVar 4) mNil))) mNil))) (mCons (mLst (mCons (mVar 12) (mCons (mVar 12) mNil))) mNil))))) (mRet (mK (.bool false))) mPass)
    (mSeq (mIfS (mNotT (mTest (mCall (callN Γ n) "_law_same" [false, false] (mCons (mCall (callN Γ n) "true_at" [false, false] (mCons (mTup (mCons (mK (.str "not")) (mCons (mVar 4) mNil))) (mCons (mVar 11) mNil))) (mCons (mNotV (mVar 12)) mNil))))) (mRet (mK (.bool false))) mPass)
    (mSeq (mSet 13 (mIf (mTest (mOp eqF (mCall (callN Γ n) "_law_pick" [true, false] (mCons (mVar 2) (mCons (mK (.int 2)) mNil))) (mK (.int 0)))) (mTup (mCons (mVar 4) (mCons (mVar 8) mNil))) (mTup (mCons (mVar 8) (mCons (mVar 4) mNil)))))
    (mSeq (mSet 14 (mB tupleF (mCons (mLc (sVal (mCall (callN Γ n) "_law_free" [false] (mCons (mOp addF (mTup (mCons (mK (.str "both")) mNil)) (mVar 13)) mNil))) (bName 17) cYes (mOp ixF (mVar 10) (mVar 17)) [17]) mNil)))
    (mSeq (mSet 15 (mCall (callN Γ n) "_law_holds" [false, false] (mCons (mVar 8) (mCons (mVar 10) mNil))))
    (mSeq (mSet 16 (mLst (mCons (mCall (callN Γ n) "true_at" [false, false] (mCons (mOp addF (mTup (mCons (mK (.str "both")) mNil)) (mVar 13)) (mCons (mVar 14) mNil))) (mCons (mCall (callN Γ n) "true_at" [false, false] (mCons (mOp addF (mTup (mCons (mK (.str "either")) mNil)) (mVar 13)) (mCons (mVar 14) mNil))) mNil))))
    (mSeq (mIfS (mNotT (mTest (mCall (callN Γ n) "_law_same" [false, false] (mCons (mVar 16) (mCons (mLst (mCons (mAndV (mVar 12) (mVar 15)) (mCons (mOrV (mVar 12) (mVar 15)) mNil))) mNil))))) (mRet (mK (.bool false))) mPass)
    (mDrop (mMeth 7 "list" appF (mCons (mTup (mCons (mVar 11) (mCons (mVar 12) mNil))) mNil)))))))))))))))
    (mFor (sVal (mUn revF (mVar 7))) (bTup 2 (bCons (bName 11) (bCons (bName 12) bNil))) (mIfS (mNotT (mTest (mCall (callN Γ n) "_law_same" [false, false] (mCons (mCall (callN Γ n) "true_at" [false, false] (mCons (mVar 4) (mCons (mVar 11) mNil))) (mCons (mVar 12) mNil))))) (mRet (mK (.bool false))) mPass))))))) [.v sc, .v pl, .own s.ob, .v tn, x4, x5, x6, x7, x8, x9, x10, x11, x12, x13, x14, x15, x16, .non] = .ok .nx [.v sc, .v pl, .own s'.ob, .v tn, y4, y5, y6, y7, y8, y9, y10, y11, y12, y13, y14, y15, y16, .non] ∧ LA.SOk (k + 700) s' := by
  have K : Bd 9000 100 := (by decide : Bd 8 100).mono (by omega)
  obtain ⟨r1, s1, e1, a1, b1, o1⟩ := LA.pickO hA (m := n) (by omega) hs (by omega) (many := 7) (by omega) (K.of_le (by omega))
  obtain ⟨r2, s2, e2, a2, b2, o2⟩ := LA.pickO hA (m := n) (by omega) o1 (by omega) (many := 3) (by omega) (K.of_le (by omega))
  obtain ⟨size, ez, z0, z1⟩ := size_ok a2 b2
  obtain ⟨s3, q, e3, gq, o3⟩ := law_saying size z0 z1 7 (1 + r1) n _ s2 s2.ob rfl (by omega) (by omega) (by omega) o2 (by omega)
  have e3 : callN Γ n "_law_saying" [.own s2.ob, .v (.int (1 + r1)), .v (.list [.int 0]), .v (.int size), .v (.int 20)] = .rt (.v q.t) [.own s3.ob, .v (.int (1 + r1)), .v (.list [.int 0]), .v (.int size), .v (.int 20)] := e3
  have gq : Gd 7 q := ⟨gq.ok, gq.plain, gq.sm, Nat.le_trans gq.sz (by omega)⟩
  have qz := gq.sz
  have e4 := law_free hL q n gq.ok (by omega)
  have e5 := law_sums q n gq.ok (by omega) (by omega)
  obtain ⟨s4, o, e6, go, _, o4⟩ := law_atom hA hL (m := n) (o := s3.ob) rfl (by omega) o3 (by omega) (size := 3) (limit := 9) (by omega) (by omega) (by omega) (by omega)
  have e6 : callN Γ n "_law_atom" [.own s3.ob, .v (.int 3), .v (.int 9)] = .rt (.v o.t) [.own s4.ob, .v (.int 3), .v (.int 9)] := e6
  have o4 : LA.SOk (k + 160) s4 := o4.mono (by omega)
  obtain ⟨e', l1, P⟩ := for_invM (b := bName 9) (S := (mSeq (mSet 10 (mLc (sRng1 (mCons (mK (.int 3)) mNil)) (bName 17) cYes (mCall (callN Γ n) "_law_number" [true] (mCons (mVar 2) mNil)) [17]))
    (mSeq (mIfS (mAndT (mTest (mOp ltF (mVar 9) (mK (.int 4)))) (mTest (mOp neF (mVar 6) (mLst mNil)))) (mSet 10 (mCall (callN Γ n) "_law_on_line" [true, false] (mCons (mVar 2) (mCons (mOp ixF (mVar 6) (mCall (callN Γ n) "_law_pick" [true, false] (mCons (mVar 2) (mCons (mB lenF (mCons (mVar 6) mNil)) mNil)))) mNil)))) mPass)
    (mSeq (mIfS (mTest (mOp gtF (mVar 9) (mK (.int 5)))) (mSet 10 (mLc (sRng1 (mCons (mK (.int 3)) mNil)) (bName 17) cYes (mTup (mCons (mOp subF (mCall (callN Γ n) "_law_pick" [true, false] (mCons (mVar 2) (mCons (mK (.int 25)) mNil))) (mK (.int 12))) (mCons (mK (.int 1)) mNil))) [17])) mPass)
    (mSeq (mPar [11, 12] (mCons (mB tupleF (mCons (mLc (sVal (mVar 5)) (bName 17) cYes (mOp ixF (mVar 10) (mVar 17)) [17]) mNil)) (mCons (mCall (callN Γ n) "_law_holds" [false, false] (mCons (mVar 4) (mCons (mVar 10) mNil))) mNil)))
    (mSeq (mIfS (mNotT (mTest (mCall (callN Γ n) "_law_same" [false, false] (mCons (mLst (mCons (mCall (callN Γ n) "true_at" [false, false] (mCons (mVar 4) (mCons (mVar 11) mNil))) (mCons (mCallK (callN Γ n) "true_at" [false, false] [1, 0] (mCons (mVar 11) (mCons (mVar 4) mNil))) mNil))) (mCons (mLst (mCons (mVar 12) (mCons (mVar 12) mNil))) mNil))))) (mRet (mK (.bool false))) mPass)
    (mSeq (mIfS (mNotT (mTest (mCall (callN Γ n) "_law_same" [false, false] (mCons (mCall (callN Γ n) "true_at" [false, false] (mCons (mTup (mCons (mK (.str "not")) (mCons (mVar 4) mNil))) (mCons (mVar 11) mNil))) (mCons (mNotV (mVar 12)) mNil))))) (mRet (mK (.bool false))) mPass)
    (mSeq (mSet 13 (mIf (mTest (mOp eqF (mCall (callN Γ n) "_law_pick" [true, false] (mCons (mVar 2) (mCons (mK (.int 2)) mNil))) (mK (.int 0)))) (mTup (mCons (mVar 4) (mCons (mVar 8) mNil))) (mTup (mCons (mVar 8) (mCons (mVar 4) mNil)))))
    (mSeq (mSet 14 (mB tupleF (mCons (mLc (sVal (mCall (callN Γ n) "_law_free" [false] (mCons (mOp addF (mTup (mCons (mK (.str "both")) mNil)) (mVar 13)) mNil))) (bName 17) cYes (mOp ixF (mVar 10) (mVar 17)) [17]) mNil)))
    (mSeq (mSet 15 (mCall (callN Γ n) "_law_holds" [false, false] (mCons (mVar 8) (mCons (mVar 10) mNil))))
    (mSeq (mSet 16 (mLst (mCons (mCall (callN Γ n) "true_at" [false, false] (mCons (mOp addF (mTup (mCons (mK (.str "both")) mNil)) (mVar 13)) (mCons (mVar 14) mNil))) (mCons (mCall (callN Γ n) "true_at" [false, false] (mCons (mOp addF (mTup (mCons (mK (.str "either")) mNil)) (mVar 13)) (mCons (mVar 14) mNil))) mNil))))
    (mSeq (mIfS (mNotT (mTest (mCall (callN Γ n) "_law_same" [false, false] (mCons (mVar 16) (mCons (mLst (mCons (mAndV (mVar 12) (mVar 15)) (mCons (mOrV (mVar 12) (mVar 15)) mNil))) mNil))))) (mRet (mK (.bool false))) mPass)
    (mDrop (mMeth 7 "list" appF (mCons (mTup (mCons (mVar 11) (mCons (mVar 12) mNil))) mNil))))))))))))))) (n := 8) (ts0 := rngTs 0 8) (fun i e => ∃ (s : Sr) (asked : List T) (x9 x10 x11 x12 x13 x14 x15 x16 : Sl), e = [.v sc, .v pl, .own s.ob, .v tn, .v q.t, .v (.tuple (flT q)), .own (.lst ((sums q).map Say.t)), .own (.lst asked), .v o.t, x9, x10, x11, x12, x13, x14, x15, x16, .non] ∧ LA.SOk (k + 160 + 26 * i) s ∧ asked.length = i ∧ ∀ t ∈ asked, AskOk q t)
    (fun i t e li m p => by
      obtain ⟨s, asked, x9, x10, x11, x12, x13, x14, x15, x16, rfl, hs, ha, hall⟩ := p
      obtain ⟨j, hj, rfl⟩ := mem_rng m
      obtain ⟨s', g, y10, y13, y14, y15, y16, e1, hg, o1⟩ := step_ok hn (k := k + 160 + 26 * i) (by omega) (sc := sc) (pl := pl) (tn := tn) (q := q) (o := o) (asked := asked) (j := 0 + (j : Int)) hs gq go (by omega) x10 x11 x12 x13 x14 x15 x16
      refine ⟨_, e1, s', _, _, _, _, _, _, _, _, _, rfl, o1.mono (by omega), by simp [ha], fun t m => ?_⟩
      rcases List.mem_append.mp m with m | m
      · exact hall t m
      · rw [List.mem_singleton] at m
        exact ⟨g, hg, m⟩) (rngTs 0 8) 0 [.v sc, .v pl, .own s4.ob, .v tn, .v q.t, .v (.tuple (flT q)), .own (.lst ((sums q).map Say.t)), .own (.lst []), .v o.t, x9, x10, x11, x12, x13, x14, x15, x16, .non] (fun _ m => m) (by rw [rng_len]; decide) ⟨s4, [], x9, x10, x11, x12, x13, x14, x15, x16, rfl, o4, rfl, fun t m => by cases m⟩
  obtain ⟨s5, asked, x9, x10, x11, x12, x13, x14, x15, x16, rfl, o5, ha, hall⟩ := P
  rw [rng_len] at o5 ha
  have o5 : LA.SOk (k + 700) s5 := o5.mono (by omega)
  obtain ⟨e'', l2, P2⟩ := for_invM (b := (bTup 2 (bCons (bName 11) (bCons (bName 12) bNil)))) (S := (mIfS (mNotT (mTest (mCall (callN Γ n) "_law_same" [false, false] (mCons (mCall (callN Γ n) "true_at" [false, false] (mCons (mVar 4) (mCons (mVar 11) mNil))) (mCons (mVar 12) mNil))))) (mRet (mK (.bool false))) mPass)) (n := 8) (ts0 := asked.reverse) (fun i e => ∃ (y11 y12 : Sl), e = [.v sc, .v pl, .own s5.ob, .v tn, .v q.t, .v (.tuple (flT q)), .own (.lst ((sums q).map Say.t)), .own (.lst asked), .v o.t, x9, x10, y11, y12, x13, x14, x15, x16, .non])
    (fun i t e li m p => by
      obtain ⟨y11, y12, rfl⟩ := p
      obtain ⟨g, hg, rfl⟩ := hall t (List.mem_reverse.mp m)
      have et := r_true_at hS (m := n) gq.ok gq.plain gq.sm (hg.ok (fv q)) (by omega) (by omega)
      have s1 := same1 hn (show k ≤ 100000 by omega)
      refine ⟨_, ?_, .v (nT g q), .v (.bool (holds g q)), rfl⟩
      simp_arith [et, s1]) asked.reverse 0 [.v sc, .v pl, .own s5.ob, .v tn, .v q.t, .v (.tuple (flT q)), .own (.lst ((sums q).map Say.t)), .own (.lst asked), .v o.t, x9, x10, x11, x12, x13, x14, x15, x16, .non] (fun _ m => m) (by rw [List.length_reverse, ha]; decide) ⟨_, _, rfl⟩
  obtain ⟨y11, y12, rfl⟩ := P2
  refine ⟨s5, .v q.t, .v (.tuple (flT q)), .own (.lst ((sums q).map Say.t)), .own (.lst asked), .v o.t, x9, x10, y11, y12, x13, x14, x15, x16, ?_, o5⟩
  simp_arith [e1, e2, ez, e3, e4, e5, e6, l1, rev_ok, itemsOf, l2]
end
theorem range_ok {ns : List Int} : ∃ K : Int, max2F [.int 1, .int (if (ns.length : Int) < 3 then (ns.length : Int) else 3)] = some (.v (.int K)) ∧ 1 ≤ K ∧ K ≤ 3 := by
  refine ⟨_, rfl, ?_, ?_⟩ <;> (split <;> (try split) <;> omega)
theorem law_says : LawSays Γ 40 := fun ns hl hb => by
  have hb' : ∀ c ∈ ns, Bd 1048576 c := fun c hc => lt_of_bits (hb c hc)
  obtain ⟨K, eK, K1, K3⟩ := range_ok (ns := ns)
  have rg : (-4611686018427387904 ≤ K ∧ K < 4611686018427387904) = True := eq_true ⟨by omega, by omega⟩
  obtain ⟨e', l1, P⟩ := for_invM (b := bName 1) (S := ((mSeq (mSet 2 (mCall (callN Γ 39) "_law_begin" [false, false] (mCons (mVar 0) (mCons (mVar 1) mNil))))
    (mFor (sRng1 (mCons (mK (.int 5)) mNil)) (bName 3) (mSeq (mSet 4 (mCall (callN Γ 39) "_law_saying" [true, false, false, false, false] (mCons (mVar 2) (mCons (mOp addF (mK (.int 1)) (mCall (callN Γ 39) "_law_pick" [true, false] (mCons (mVar 2) (mCons (mK (.int 7)) mNil)))) (mCons (mLst (mCons (mK (.int 0)) mNil)) (mCons (mOp ixF (mLst (mCons (mK (.int 1)) (mCons (mK (.int 3)) (mCons (mK (.int 20)) mNil)))) (mCall (callN Γ 39) "_law_pick" [true, false] (mCons (mVar 2) (mCons (mK (.int 3)) mNil)))) (mCons (mK (.int 20)) mNil)))))))
    (mSeq (mPar [5, 6, 7] (mCons (mCall (callN Γ 39) "_law_free" [false] (mCons (mVar 4) mNil)) (mCons (mCall (callN Γ 39) "_law_sums" [false] (mCons (mVar 4) mNil)) (mCons (mLst mNil) mNil))))
    (mSeq (mSet 8 (mCall (callN Γ 39) "_law_atom" [true, false, false] (mCons (mVar 2) (mCons (mK (.int 3)) (mCons (mK (.int 9)) mNil)))))
    (mSeq (mFor (sRng1 (mCons (mK (.int 8)) mNil)) (bName 9) (mSeq (mSet 10 (mLc (sRng1 (mCons (mK (.int 3)) mNil)) (bName 17) cYes (mCall (callN Γ 39) "_law_number" [true] (mCons (mVar 2) mNil)) [17]))
    (mSeq (mIfS (mAndT (mTest (mOp ltF (mVar 9) (mK (.int 4)))) (mTest (mOp neF (mVar 6) (mLst mNil)))) (mSet 10 (mCall (callN Γ 39) "_law_on_line" [true, false] (mCons (mVar 2) (mCons (mOp ixF (mVar 6) (mCall (callN Γ 39) "_law_pick" [true, false] (mCons (mVar 2) (mCons (mB lenF (mCons (mVar 6) mNil)) mNil)))) mNil)))) mPass)
    (mSeq (mIfS (mTest (mOp gtF (mVar 9) (mK (.int 5)))) (mSet 10 (mLc (sRng1 (mCons (mK (.int 3)) mNil)) (bName 17) cYes (mTup (mCons (mOp subF (mCall (callN Γ 39) "_law_pick" [true, false] (mCons (mVar 2) (mCons (mK (.int 25)) mNil))) (mK (.int 12))) (mCons (mK (.int 1)) mNil))) [17])) mPass)
    (mSeq (mPar [11, 12] (mCons (mB tupleF (mCons (mLc (sVal (mVar 5)) (bName 17) cYes (mOp ixF (mVar 10) (mVar 17)) [17]) mNil)) (mCons (mCall (callN Γ 39) "_law_holds" [false, false] (mCons (mVar 4) (mCons (mVar 10) mNil))) mNil)))
    (mSeq (mIfS (mNotT (mTest (mCall (callN Γ 39) "_law_same" [false, false] (mCons (mLst (mCons (mCall (callN Γ 39) "true_at" [false, false] (mCons (mVar 4) (mCons (mVar 11) mNil))) (mCons (mCallK (callN Γ 39) "true_at" [false, false] [1, 0] (mCons (mVar 11) (mCons (mVar 4) mNil))) mNil))) (mCons (mLst (mCons (mVar 12) (mCons (mVar 12) mNil))) mNil))))) (mRet (mK (.bool false))) mPass)
    (mSeq (mIfS (mNotT (mTest (mCall (callN Γ 39) "_law_same" [false, false] (mCons (mCall (callN Γ 39) "true_at" [false, false] (mCons (mTup (mCons (mK (.str "not")) (mCons (mVar 4) mNil))) (mCons (mVar 11) mNil))) (mCons (mNotV (mVar 12)) mNil))))) (mRet (mK (.bool false))) mPass)
    (mSeq (mSet 13 (mIf (mTest (mOp eqF (mCall (callN Γ 39) "_law_pick" [true, false] (mCons (mVar 2) (mCons (mK (.int 2)) mNil))) (mK (.int 0)))) (mTup (mCons (mVar 4) (mCons (mVar 8) mNil))) (mTup (mCons (mVar 8) (mCons (mVar 4) mNil)))))
    (mSeq (mSet 14 (mB tupleF (mCons (mLc (sVal (mCall (callN Γ 39) "_law_free" [false] (mCons (mOp addF (mTup (mCons (mK (.str "both")) mNil)) (mVar 13)) mNil))) (bName 17) cYes (mOp ixF (mVar 10) (mVar 17)) [17]) mNil)))
    (mSeq (mSet 15 (mCall (callN Γ 39) "_law_holds" [false, false] (mCons (mVar 8) (mCons (mVar 10) mNil))))
    (mSeq (mSet 16 (mLst (mCons (mCall (callN Γ 39) "true_at" [false, false] (mCons (mOp addF (mTup (mCons (mK (.str "both")) mNil)) (mVar 13)) (mCons (mVar 14) mNil))) (mCons (mCall (callN Γ 39) "true_at" [false, false] (mCons (mOp addF (mTup (mCons (mK (.str "either")) mNil)) (mVar 13)) (mCons (mVar 14) mNil))) mNil))))
    (mSeq (mIfS (mNotT (mTest (mCall (callN Γ 39) "_law_same" [false, false] (mCons (mVar 16) (mCons (mLst (mCons (mAndV (mVar 12) (mVar 15)) (mCons (mOrV (mVar 12) (mVar 15)) mNil))) mNil))))) (mRet (mK (.bool false))) mPass)
    (mDrop (mMeth 7 "list" appF (mCons (mTup (mCons (mVar 11) (mCons (mVar 12) mNil))) mNil)))))))))))))))
    (mFor (sVal (mUn revF (mVar 7))) (bTup 2 (bCons (bName 11) (bCons (bName 12) bNil))) (mIfS (mNotT (mTest (mCall (callN Γ 39) "_law_same" [false, false] (mCons (mCall (callN Γ 39) "true_at" [false, false] (mCons (mVar 4) (mCons (mVar 11) mNil))) (mCons (mVar 12) mNil))))) (mRet (mK (.bool false))) mPass)))))))))) (n := 3) (ts0 := rngTs 0 K.toNat) (fun _ e => ∃ (x1 x2 x3 x4 x5 x6 x7 x8 x9 x10 x11 x12 x13 x14 x15 x16 : Sl), e = [.v (.ro (ns.map .int)), x1, x2, x3, x4, x5, x6, x7, x8, x9, x10, x11, x12, x13, x14, x15, x16, .non])
    (fun i t e li m p => by
      obtain ⟨x1, x2, x3, x4, x5, x6, x7, x8, x9, x10, x11, x12, x13, x14, x15, x16, rfl⟩ := p
      obtain ⟨pl, hp, rfl⟩ := mem_rng m
      obtain ⟨s, e1, o1⟩ := LA.begin_ok hA (m := 39) (ns := ns) (p := 0 + (pl : Int)) (by omega) hl hb' (by omega) (by omega)
      obtain ⟨e2, l2, P2⟩ := for_invM (b := bName 3) (S := ((mSeq (mSet 4 (mCall (callN Γ 39) "_law_saying" [true, false, false, false, false] (mCons (mVar 2) (mCons (mOp addF (mK (.int 1)) (mCall (callN Γ 39) "_law_pick" [true, false] (mCons (mVar 2) (mCons (mK (.int 7)) mNil)))) (mCons (mLst (mCons (mK (.int 0)) mNil)) (mCons (mOp ixF (mLst (mCons (mK (.int 1)) (mCons (mK (.int 3)) (mCons (mK (.int 20)) mNil)))) (mCall (callN Γ 39) "_law_pick" [true, false] (mCons (mVar 2) (mCons (mK (.int 3)) mNil)))) (mCons (mK (.int 20)) mNil)))))))
    (mSeq (mPar [5, 6, 7] (mCons (mCall (callN Γ 39) "_law_free" [false] (mCons (mVar 4) mNil)) (mCons (mCall (callN Γ 39) "_law_sums" [false] (mCons (mVar 4) mNil)) (mCons (mLst mNil) mNil))))
    (mSeq (mSet 8 (mCall (callN Γ 39) "_law_atom" [true, false, false] (mCons (mVar 2) (mCons (mK (.int 3)) (mCons (mK (.int 9)) mNil)))))
    (mSeq (mFor (sRng1 (mCons (mK (.int 8)) mNil)) (bName 9) (mSeq (mSet 10 (mLc (sRng1 (mCons (mK (.int 3)) mNil)) (bName 17) cYes (mCall (callN Γ 39) "_law_number" [true] (mCons (mVar 2) mNil)) [17]))
    (mSeq (mIfS (mAndT (mTest (mOp ltF (mVar 9) (mK (.int 4)))) (mTest (mOp neF (mVar 6) (mLst mNil)))) (mSet 10 (mCall (callN Γ 39) "_law_on_line" [true, false] (mCons (mVar 2) (mCons (mOp ixF (mVar 6) (mCall (callN Γ 39) "_law_pick" [true, false] (mCons (mVar 2) (mCons (mB lenF (mCons (mVar 6) mNil)) mNil)))) mNil)))) mPass)
    (mSeq (mIfS (mTest (mOp gtF (mVar 9) (mK (.int 5)))) (mSet 10 (mLc (sRng1 (mCons (mK (.int 3)) mNil)) (bName 17) cYes (mTup (mCons (mOp subF (mCall (callN Γ 39) "_law_pick" [true, false] (mCons (mVar 2) (mCons (mK (.int 25)) mNil))) (mK (.int 12))) (mCons (mK (.int 1)) mNil))) [17])) mPass)
    (mSeq (mPar [11, 12] (mCons (mB tupleF (mCons (mLc (sVal (mVar 5)) (bName 17) cYes (mOp ixF (mVar 10) (mVar 17)) [17]) mNil)) (mCons (mCall (callN Γ 39) "_law_holds" [false, false] (mCons (mVar 4) (mCons (mVar 10) mNil))) mNil)))
    (mSeq (mIfS (mNotT (mTest (mCall (callN Γ 39) "_law_same" [false, false] (mCons (mLst (mCons (mCall (callN Γ 39) "true_at" [false, false] (mCons (mVar 4) (mCons (mVar 11) mNil))) (mCons (mCallK (callN Γ 39) "true_at" [false, false] [1, 0] (mCons (mVar 11) (mCons (mVar 4) mNil))) mNil))) (mCons (mLst (mCons (mVar 12) (mCons (mVar 12) mNil))) mNil))))) (mRet (mK (.bool false))) mPass)
    (mSeq (mIfS (mNotT (mTest (mCall (callN Γ 39) "_law_same" [false, false] (mCons (mCall (callN Γ 39) "true_at" [false, false] (mCons (mTup (mCons (mK (.str "not")) (mCons (mVar 4) mNil))) (mCons (mVar 11) mNil))) (mCons (mNotV (mVar 12)) mNil))))) (mRet (mK (.bool false))) mPass)
    (mSeq (mSet 13 (mIf (mTest (mOp eqF (mCall (callN Γ 39) "_law_pick" [true, false] (mCons (mVar 2) (mCons (mK (.int 2)) mNil))) (mK (.int 0)))) (mTup (mCons (mVar 4) (mCons (mVar 8) mNil))) (mTup (mCons (mVar 8) (mCons (mVar 4) mNil)))))
    (mSeq (mSet 14 (mB tupleF (mCons (mLc (sVal (mCall (callN Γ 39) "_law_free" [false] (mCons (mOp addF (mTup (mCons (mK (.str "both")) mNil)) (mVar 13)) mNil))) (bName 17) cYes (mOp ixF (mVar 10) (mVar 17)) [17]) mNil)))
    (mSeq (mSet 15 (mCall (callN Γ 39) "_law_holds" [false, false] (mCons (mVar 8) (mCons (mVar 10) mNil))))
    (mSeq (mSet 16 (mLst (mCons (mCall (callN Γ 39) "true_at" [false, false] (mCons (mOp addF (mTup (mCons (mK (.str "both")) mNil)) (mVar 13)) (mCons (mVar 14) mNil))) (mCons (mCall (callN Γ 39) "true_at" [false, false] (mCons (mOp addF (mTup (mCons (mK (.str "either")) mNil)) (mVar 13)) (mCons (mVar 14) mNil))) mNil))))
    (mSeq (mIfS (mNotT (mTest (mCall (callN Γ 39) "_law_same" [false, false] (mCons (mVar 16) (mCons (mLst (mCons (mAndV (mVar 12) (mVar 15)) (mCons (mOrV (mVar 12) (mVar 15)) mNil))) mNil))))) (mRet (mK (.bool false))) mPass)
    (mDrop (mMeth 7 "list" appF (mCons (mTup (mCons (mVar 11) (mCons (mVar 12) mNil))) mNil)))))))))))))))
    (mFor (sVal (mUn revF (mVar 7))) (bTup 2 (bCons (bName 11) (bCons (bName 12) bNil))) (mIfS (mNotT (mTest (mCall (callN Γ 39) "_law_same" [false, false] (mCons (mCall (callN Γ 39) "true_at" [false, false] (mCons (mVar 4) (mCons (mVar 11) mNil))) (mCons (mVar 12) mNil))))) (mRet (mK (.bool false))) mPass)))))))) (n := 5) (ts0 := rngTs 0 5) (fun i e => ∃ (s : Sr) (x3 x4 x5 x6 x7 x8 x9 x10 x11 x12 x13 x14 x15 x16 : Sl), e = [.v (.ro (ns.map .int)), .v (.int (0 + (pl : Int))), .own s.ob, x3, x4, x5, x6, x7, x8, x9, x10, x11, x12, x13, x14, x15, x16, .non] ∧ LA.SOk (700 * i) s)
        (fun i t e li m p => by
          obtain ⟨s, x3, x4, x5, x6, x7, x8, x9, x10, x11, x12, x13, x14, x15, x16, rfl, hs⟩ := p
          obtain ⟨s', y4, y5, y6, y7, y8, y9, y10, y11, y12, y13, y14, y15, y16, e1, o1⟩ := turn_ok (n := 39) (by omega) (k := 700 * i) (by omega) (hk2 := by omega) (sc := .ro (ns.map .int)) (pl := .int (0 + (pl : Int))) (tn := t) hs x4 x5 x6 x7 x8 x9 x10 x11 x12 x13 x14 x15 x16
          exact ⟨_, e1, s', .v t, y4, y5, y6, y7, y8, y9, y10, y11, y12, y13, y14, y15, y16, rfl, o1.mono (by omega)⟩) (rngTs 0 5) 0 [.v (.ro (ns.map .int)), .v (.int (0 + (pl : Int))), .own s.ob, x3, x4, x5, x6, x7, x8, x9, x10, x11, x12, x13, x14, x15, x16, .non] (fun _ m => m) (by rw [rng_len]; decide) ⟨s, x3, x4, x5, x6, x7, x8, x9, x10, x11, x12, x13, x14, x15, x16, rfl, o1⟩
      obtain ⟨s', y3, y4, y5, y6, y7, y8, y9, y10, y11, y12, y13, y14, y15, y16, rfl, _⟩ := P2
      refine ⟨_, ?_, .v (.int (0 + (pl : Int))), .own s'.ob, y3, y4, y5, y6, y7, y8, y9, y10, y11, y12, y13, y14, y15, y16, rfl⟩
      simp_arith [e1, l2]) (rngTs 0 K.toNat) 0 [.v (.ro (ns.map .int)), .non, .non, .non, .non, .non, .non, .non, .non, .non, .non, .non, .non, .non, .non, .non, .non, .non] (fun _ m => m) (by rw [rng_len]; omega) ⟨_, _, _, _, _, _, _, _, _, _, _, _, _, _, _, _, rfl⟩
  obtain ⟨x1, x2, x3, x4, x5, x6, x7, x8, x9, x10, x11, x12, x13, x14, x15, x16, rfl⟩ := P
  refine ⟨[.v (.ro (ns.map .int))], ?_⟩
  show runFn fn_law (callN Γ 39) _ = _
  simp_arith [fn_law, cd_law, min2F, eK, rg, l1]
end K20
end P_M4

section P_M5
set_option Elab.async false
set_option linter.all false
namespace K20
open Ev
theorem all_holds : PySem.Challenge.rw_wholeshapes_k20_whole_sayings_by_reckoni.Holds := holds_of ⟨by decide, by decide, by decide⟩ law_says
end K20
end P_M5

theorem PySem.Challenge.cw_wholeshapes_k20_whole_sayings_by_reckoni_holds : PySem.Challenge.rw_wholeshapes_k20_whole_sayings_by_reckoni.Holds := by
  exact K20.all_holds
