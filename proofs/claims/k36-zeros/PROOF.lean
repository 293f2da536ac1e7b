import PyProof.Rows.All
import Wide.All
import OpenK.AllK
import Wide.FinOn
import HandS.ForMost
import HandS.Exc
import HandS.WordsExc
import HandS.Dict
import HandS.TupSets
import HandS.Conv
import HandS.Wide
import HandS.TupAny
import HandS.Deep
import HandS.Zip
import HandS.Rev
import HandS.Ends
import HandS.Defaults
import HandS.TupMul
import HandS.IsInst
import HandS.Style
import PyProof.ReprRoads
import HandS.HeadEnd
import HandS.HeadHook2
import HandS.Head0
import HandS.Head1
import HandS.Head2
import HandS.BoundList
import HandS.Steps
import PyProof.ReprLen
import PyProof.FitsInt
import KE.SortData
import KE.DataMinMax
import KE.KTupSum
import PyProof.Draws
import PyProof.EnumMake
import PyProof.P3In
import KE.KDictSum
import HandS.Star
import PyProof.Rows.ReprOcc
import HandS.HeadHook1
import KE.KStateDown
import PySem.Challenge.RW_listpicks_k36_whole_how_many_common_zero
set_option Elab.async false
set_option linter.all false
set_option maxRecDepth 100000
set_option maxHeartbeats 0
/-! Lp: mirrors of defs as plain functions over data, and what ties them to the layer's readings. -/
namespace Lp
open PySem PySem.Spec L2
set_option autoImplicit false

abbrev D := PyData
def keyD : Key → D
  | .inl i => .int i
  | .inr x => .str x
/-! ### dicts whose keys are tuples of ints -/
def tupH (k : List Int) : Int := reduceHash (Builtin.Tuple.tupleHashOf (k.map hashInt))
def entI (x : List Int × Addr × Value) : DictEntry := ⟨tupH x.1, .ref x.2.1, x.2.2⟩
abbrev DRow := List Int × Addr × V
def Dic0 (h : Heap) (a : Addr) (L : List DRow) : Prop := L.length ≤ sizeLine ∧ (a == sysModules) = false ∧ (L.map (·.1)).Nodup ∧
  ∃ xs : List (List Int × Addr × Value), Paired (fun p q => p.1 = q.1 ∧ p.2.1 = q.2.1 ∧ RelV p.2.2 q.2.2) L xs ∧ ∃ o es ep, h.get? a = some o ∧ o.ExactDict ∧ o.data = .dict es ep ∧ es.toList = xs.map entI
def DicO (a : Addr) (L : List DRow) : HO := .ext fun h => Dic0 h a L
/-! ### values that stand for data, over a frozen heap B -/
mutual
inductive Rp (K : PySem.W.Frag) (B : Hp) : V → D → Prop
  | non : Rp K B .non .none
  | bl (b : Bool) : Rp K B (.bl b) (.bool b)
  | int (i : Int) : Rp K B (.int i) (.int i)
  | str (x : Str) : Rp K B (.str x) (.str x)
  | lst {a : Addr} {xs : List V} {ds : List D} : B a = some (.lst xs) → xs.length ≤ sizeLine → RpAll K B xs ds → Rp K B (.ref a) (.list ds)
  | tup {a : Addr} {xs : List V} {ds : List D} : SqT K B a xs → xs.length ≤ sizeLine → RpAll K B xs ds → Rp K B (.ref a) (.tuple ds)
  | dcx {a : Addr} {L : List DRow} {ds : List D} : B a = some (DicO a L) → (∀ p ∈ L, SqT K B p.2.1 (p.1.map V.int)) → RpAll K B (L.map (·.2.2)) ds → Rp K B (.ref a) (.dict ((L.map fun p => .tuple (p.1.map .int)).zip ds))
inductive RpAll (K : PySem.W.Frag) (B : Hp) : List V → List D → Prop
  | nil : RpAll K B [] []
  | cons {v : V} {vs : List V} {d : D} {ds : List D} : Rp K B v d → RpAll K B vs ds → RpAll K B (v :: vs) (d :: ds)
end
theorem Same.sqT {K : PySem.W.Frag} {H H' : Hp} {a : Addr} {xs : List V} (e : Same H H') (h : SqT K H a xs) : SqT K H' a xs := by
  rcases h with (h | ⟨o, h⟩) | h
  · exact .inl (.inl (e _ _ h))
  · exact .inl (.inr ⟨o, e _ _ h⟩)
  · exact .inr h
section
variable {K : PySem.W.Frag} {B B' H H' : Hp}
mutual
theorem Rp.mono (e : Same B B') : ∀ {v : V} {d : D}, Rp K B v d → Rp K B' v d
  | _, _, .non => .non
  | _, _, .bl b => .bl b
  | _, _, .int i => .int i
  | _, _, .str x => .str x
  | _, _, .lst h z r => .lst (e _ _ h) z (RpAll.mono e r)
  | _, _, .tup h z r => .tup (Same.sqT e h) z (RpAll.mono e r)
  | _, _, .dcx h t r => .dcx (e _ _ h) (fun p hp => Same.sqT e (t p hp)) (RpAll.mono e r)
theorem RpAll.mono (e : Same B B') : ∀ {vs : List V} {ds : List D}, RpAll K B vs ds → RpAll K B' vs ds
  | _, _, .nil => .nil
  | _, _, .cons h r => .cons (Rp.mono e h) (RpAll.mono e r)
end
theorem RpAll.length : ∀ {vs : List V} {ds : List D}, RpAll K B vs ds → vs.length = ds.length
  | _, _, .nil => rfl
  | _, _, .cons _ r => by rw [List.length_cons, List.length_cons, RpAll.length r]
theorem RpAll.get : ∀ {vs : List V} {ds : List D} {i : Nat} {v : V}, RpAll K B vs ds → vs[i]? = some v → ∃ d, ds[i]? = some d ∧ Rp K B v d
  | _, _, 0, _, .cons h _, e => ⟨_, rfl, by simp at e; subst e; exact h⟩
  | _, _, i + 1, _, .cons _ r, e => by
    simp only [List.getElem?_cons_succ] at e ⊢
    exact RpAll.get r e
theorem RpAll.get' : ∀ {vs : List V} {ds : List D} {i : Nat} {d : D}, RpAll K B vs ds → ds[i]? = some d → ∃ v, vs[i]? = some v ∧ Rp K B v d
  | _, _, 0, _, .cons h _, e => ⟨_, rfl, by simp at e; subst e; exact h⟩
  | _, _, i + 1, _, .cons _ r, e => by
    simp only [List.getElem?_cons_succ] at e ⊢
    exact RpAll.get' r e
theorem RpAll.append : ∀ {vs ws : List V} {ds es : List D}, RpAll K B vs ds → RpAll K B ws es → RpAll K B (vs ++ ws) (ds ++ es)
  | _, _, _, _, .nil, s => s
  | _, _, _, _, .cons h r, s => .cons h (RpAll.append r s)
theorem RpAll.set {x : V} {d : D} (h : Rp K B x d) : ∀ {vs : List V} {ds : List D} (i : Nat), RpAll K B vs ds → RpAll K B (vs.set i x) (ds.set i d)
  | _, _, _, .nil => .nil
  | _, _, 0, .cons _ t => .cons h t
  | _, _, i + 1, .cons q t => .cons q (RpAll.set h i t)
theorem RpAll.take : ∀ {vs : List V} {ds : List D} (n : Nat), RpAll K B vs ds → RpAll K B (vs.take n) (ds.take n)
  | _, _, 0, _ => .nil
  | _, _, _ + 1, .nil => .nil
  | _, _, n + 1, .cons r t => .cons r (RpAll.take n t)
theorem RpAll.drop : ∀ {vs : List V} {ds : List D} (n : Nat), RpAll K B vs ds → RpAll K B (vs.drop n) (ds.drop n)
  | _, _, 0, r => r
  | _, _, _ + 1, .nil => .nil
  | _, _, n + 1, .cons _ t => RpAll.drop n t
theorem RpAll.reverse : ∀ {vs : List V} {ds : List D}, RpAll K B vs ds → RpAll K B vs.reverse ds.reverse
  | _, _, .nil => .nil
  | _, _, .cons h r => by
    rw [List.reverse_cons, List.reverse_cons]
    exact (RpAll.reverse r).append (.cons h .nil)
end

/-! ### the mirror's monad -/
inductive Sl where
  | un
  | dat (d : D)
  | own (ds : List D)
  | deal (c : List Int) (b : Int)
  | scr (ns : List Int)
  | dcT (kvs : List (List Int × D))
  | dcI (kvs : List (Int × D))
abbrev Env' := List Sl
inductive Out (α : Type) where
  | stuck
  | err (k : Nat) (d : D) (e : Env')
  | ok (a : α) (e : Env')
def M (α : Type) := Env' → Out α
def Out.bind {α β : Type} (o : Out α) (f : α → Env' → Out β) : Out β :=
  match o with
  | .stuck => .stuck
  | .err k d e => .err k d e
  | .ok a e => f a e
@[simp] theorem Out.bind_ok {α β : Type} (a : α) (e : Env') (f : α → Env' → Out β) : (Out.ok a e).bind f = f a e := rfl
@[simp] theorem Out.bind_err {α β : Type} (k : Nat) (d : D) (e : Env') (f : α → Env' → Out β) : (Out.err k d e).bind f = .err k d e := rfl
@[simp] theorem Out.bind_stuck {α β : Type} (f : α → Env' → Out β) : (Out.stuck : Out α).bind f = .stuck := rfl
inductive Ctl where
  | next | brk | cnt | ret (r : Sl)

/-! ### the world of a frame -/
structure Wd where
  B0 : Hp
  H0 : Hp
  ft : List Addr
  io : List Nat
  σ0 : St
structure Grow (B0 H0 : Hp) (ft : List Addr) (B H : Hp) : Prop where
  b : Same B0 B
  bh : Same B H
  fr : ∀ a, B0 a = none → Mut (H0 a) → a ∉ ft → B a = none
  keep : ∀ a o, a ∉ ft → H0 a = some o → H a = some o
  st : ∀ a, H0 a ≠ none → H a ≠ none
/-- an address that the frame owns -/
structure Ownd (W : Wd) (B H : Hp) (p : Addr) : Prop where
  nb : B p = none
  fr : W.H0 p = none ∨ p ∈ W.ft
def SlV (K : PySem.W.Frag) (W : Wd) (B H : Hp) (F : List Addr) (v : V) : Sl → Prop
  | .un => True
  | .dat d => Rp K B v d
  | .own ds => ∃ p vs, v = .ref p ∧ p ∈ F ∧ Ownd W B H p ∧ H p = some (.lst vs) ∧ RpAll K B vs ds ∧ vs.length ≤ sizeLine
  | .deal c b => ∃ p q, v = .ref p ∧ p ∈ F ∧ q ∈ F ∧ p ≠ q ∧ Ownd W B H p ∧ Ownd W B H q ∧ H p = some (.lst [.ref q, .int b]) ∧ H q = some (.lst (c.map V.int))
  | .scr ns => ∃ a, v = .ref a ∧ SqL K B a (ns.map V.int)
  | .dcT kvs => ∃ p L, v = .ref p ∧ p ∈ F ∧ Ownd W B H p ∧ H p = some (DicO p L) ∧ (∀ q ∈ L, SqT K B q.2.1 (q.1.map V.int)) ∧ L.map (·.1) = kvs.map (·.1) ∧ RpAll K B (L.map (·.2.2)) (kvs.map (·.2))
  | .dcI kvs => ∃ p L, v = .ref p ∧ p ∈ F ∧ Ownd W B H p ∧ H p = some (.dK L) ∧ L.map (·.1) = kvs.map (fun q => (Sum.inl q.1 : Key)) ∧ RpAll K B (L.map (·.2)) (kvs.map (·.2))
def SlAt (K : PySem.W.Frag) (W : Wd) (B H : Hp) (F : List Addr) (ov : Option (Option V)) (s : Sl) : Prop :=
  s = .un ∨ ∃ v, ov = some (some v) ∧ SlV K W B H F v s
structure Slots (K : PySem.W.Frag) (W : Wd) (B H : Hp) (σ : St) (env : Env') (F : Nat → List Addr) : Prop where
  len : σ.length = env.length
  pin : ∀ i ∈ W.io, σ[i]? = W.σ0[i]?
  at_ : ∀ i s, env[i]? = some s → SlAt K W B H (F i) (σ[i]?) s
  there : ∀ i a, a ∈ F i → Mut (H a) ∧ Ownd W B H a
  dis : ∀ i j a, a ∈ F i → a ∈ F j → i = j
def SI (K : PySem.W.Frag) (W : Wd) (B H : Hp) (σ : St) (env : Env') : Prop := Grow W.B0 W.H0 W.ft B H ∧ ∃ F, Slots K W B H σ env F
def SIV (K : PySem.W.Frag) (W : Wd) (B H : Hp) (σ : St) (env : Env') (v : V) (r : Sl) : Prop :=
  Grow W.B0 W.H0 W.ft B H ∧ ∃ F Fv, Slots K W B H σ env F ∧ SlV K W B H Fv v r ∧ (∀ a ∈ Fv, Mut (H a) ∧ Ownd W B H a) ∧ ∀ i a, a ∈ F i → a ∉ Fv

section
variable {K : PySem.W.Frag} {W : Wd} {B B' H H' : Hp} {σ : St} {env : Env'} {v : V} {r : Sl} {d : D} {F : Nat → List Addr}
theorem SIV.si (h : SIV K W B H σ env v r) : SI K W B H σ env := ⟨h.1, let ⟨F, _, s, _⟩ := h.2; ⟨F, s⟩⟩
theorem SI.same (h : SI K W B H σ env) : Same B H := h.1.bh
theorem SI.dat (h : SI K W B H σ env) (r : Rp K B v d) : SIV K W B H σ env v (.dat d) := by
  obtain ⟨g, F, s⟩ := h
  exact ⟨g, F, [], s, r, by simp, by simp⟩
theorem SIV.rp (h : SIV K W B H σ env v (.dat d)) : Rp K B v d := let ⟨_, _, _, _, r, _⟩ := h; r
theorem SIV.rpH (h : SIV K W B H σ env v (.dat d)) : Rp K H v d := h.rp.mono h.1.bh
/-- the frame's own slots stand when new things come and nothing of theirs is touched -/
theorem SlV.grow {F : List Addr} (s : SlV K W B H F v r) (hb : Same B B') (hn : ∀ a ∈ F, B a = none → B' a = none) (hh : ∀ a ∈ F, ∀ o, H a = some o → H' a = some o) : SlV K W B' H' F v r := by
  cases r with
  | un => trivial
  | dat d => exact Rp.mono hb s
  | own ds =>
    obtain ⟨p, vs, e, m, o, hp, r, z⟩ := s
    exact ⟨p, vs, e, m, ⟨hn p m o.nb, o.fr⟩, hh p m _ hp, r.mono hb, z⟩
  | deal c b =>
    obtain ⟨p, q, e, m, n, ne, o, u, hp, hq⟩ := s
    exact ⟨p, q, e, m, n, ne, ⟨hn p m o.nb, o.fr⟩, ⟨hn q n u.nb, u.fr⟩, hh p m _ hp, hh q n _ hq⟩
  | scr ns =>
    obtain ⟨a, e, h⟩ := s
    exact ⟨a, e, hb.seq h⟩
  | dcT kvs =>
    obtain ⟨p, L, e, m, o, hp, t, k, r⟩ := s
    exact ⟨p, L, e, m, ⟨hn p m o.nb, o.fr⟩, hh p m _ hp, fun q hq => Same.sqT hb (t q hq), k, r.mono hb⟩
  | dcI kvs =>
    obtain ⟨p, L, e, m, o, hp, k, r⟩ := s
    exact ⟨p, L, e, m, ⟨hn p m o.nb, o.fr⟩, hh p m _ hp, k, r.mono hb⟩
theorem SlAt.grow {F : List Addr} {ov : Option (Option V)} (s : SlAt K W B H F ov r) (hb : Same B B') (hn : ∀ a ∈ F, B a = none → B' a = none) (hh : ∀ a ∈ F, ∀ o, H a = some o → H' a = some o) : SlAt K W B' H' F ov r := by
  rcases s with e | ⟨v, e, s⟩
  · exact .inl e
  · exact .inr ⟨v, e, s.grow hb hn hh⟩
theorem Slots.grow (s : Slots K W B H σ env F) (hb : Same B B') (hn : ∀ i, ∀ a ∈ F i, B a = none → B' a = none) (hh : ∀ i, ∀ a ∈ F i, ∀ o, H a = some o → H' a = some o) : Slots K W B' H' σ env F where
  len := s.len
  pin := s.pin
  at_ := fun i x e => (s.at_ i x e).grow hb (hn i) (hh i)
  there := fun i a ha => by
    obtain ⟨m, o⟩ := s.there i a ha
    refine ⟨?_, hn i a ha o.nb, o.fr⟩
    cases q : H a with
    | none => rw [q] at m; exact m.elim
    | some o => rw [hh i a ha o q, ← q]; exact m
  dis := s.dis
theorem Grow.refl (e : Same B H) (ft : List Addr) : Grow B H ft B H := ⟨fun _ _ h => h, e, fun _ h _ _ => h, fun _ _ _ h => h, fun _ h => h⟩
theorem Grow.trans {B0 H0 B1 H1 B2 H2 : Hp} {ft ft' : List Addr} (a : Grow B0 H0 ft B1 H1) (b : Grow B1 H1 ft' B2 H2) (h : ∀ p ∈ ft', H0 p = none ∨ p ∈ ft) : Grow B0 H0 ft B2 H2 where
  b := a.b.trans b.b
  bh := b.bh
  fr := fun x h0 h1 h2 => by
    refine b.fr x (a.fr x h0 h1 h2) ?_ fun hx => ?_
    · cases q : H0 x with
      | none => rw [q] at h1; exact h1.elim
      | some o => rw [a.keep x o h2 q, ← q]; exact h1
    · rcases h x hx with e | e
      · rw [e] at h1; exact h1
      · exact h2 e
  keep := fun x o hx e => by
    refine b.keep x o (fun hx' => ?_) (a.keep x o hx e)
    rcases h x hx' with z | z
    · rw [z] at e; cases e
    · exact hx z
  st := fun x h => b.st x (a.st x h)
/-- new objects alone -/
theorem SI.more (h : SI K W B H σ env) (g : Grow B H [] B' H') : SI K W B' H' σ env := by
  obtain ⟨g0, F, s⟩ := h
  refine ⟨g0.trans g (by simp), F, s.grow g.b (fun i a ha hb => ?_) fun i a ha o e => g.keep a o (by simp) e⟩
  exact g.fr a hb (s.there i a ha).1 (by simp)
/-- one new object, frozen -/
theorem SI.newB (h : SI K W B H σ env) {p : Addr} {o : HO} (hp : H p = none) : SI K W (upd B p o) (upd H p o) σ env ∧ Same B (upd B p o) := by
  have hbp : B p = none := h.same.free hp
  have sb : Same B (upd B p o) := fun b u e => by rw [upd_ne (ne_of_none e hbp)]; exact e
  refine ⟨h.more ⟨sb, fun b u e => ?_, fun a h1 h2 _ => ?_, fun a u _ e => ?_, fun a e => ?_⟩, sb⟩
  · by_cases q : b = p
    · subst q; rw [upd_same] at e ⊢; exact e
    · rw [upd_ne q] at e ⊢; exact h.same _ _ e
  · have : a ≠ p := fun z => by rw [z, hp] at h2; exact h2
    rw [upd_ne this]; exact h1
  · rw [upd_ne (ne_of_none e hp)]; exact e
  · have : a ≠ p := fun z => e (by rw [z]; exact hp)
    rw [upd_ne this]; exact e
/-- one new object, the frame's own -/
theorem SI.newH (h : SI K W B H σ env) {p : Addr} {o : HO} (hp : H p = none) : SI K W B (upd H p o) σ env := by
  have hbp : B p = none := h.same.free hp
  refine h.more ⟨fun _ _ e => e, fun b u e => ?_, fun a h1 h2 _ => h1, fun a u _ e => ?_, fun a e => ?_⟩
  · rw [upd_ne (ne_of_none e hbp)]; exact h.same _ _ e
  · rw [upd_ne (ne_of_none e hp)]; exact e
  · have : a ≠ p := fun z => e (by rw [z]; exact hp)
    rw [upd_ne this]; exact e
end
end Lp

namespace Lp
open PySem PySem.Spec L2
set_option autoImplicit false

/-! ### what is wanted behind a mirror's outcome -/
/-- what the frame wishes of exceptions: by the class's number -/
structure Ax where
  ec : Nat → Value
  Wx : WX
section
variable {K : PySem.W.Frag} {ax : Ax} {W : Wd} {B B' H H' : Hp} {σ : L2.St} {env : Env'}
def Errs (K : PySem.W.Frag) (ax : Ax) (W : Wd) (σ : L2.St) (B : Hp) (k : Nat) (d : D) (e : Env') : Prop :=
  ∀ (v : V) (dx : Addr) (B' H' : Hp), Same B B' → SI K W B' H' σ e → Rp K B' v d → H' dx = some (.xd [("at", v)]) → ax.Wx (ax.ec k) (some dx) σ H'
def Good {α β : Type} (R : Hp → β → α → Prop) (K : PySem.W.Frag) (ax : Ax) (W : Wd) (σ : L2.St) (B : Hp) (Q : β → Hp → Prop) : Out α → Prop
  | .stuck => False
  | .err k d e => Errs K ax W σ B k d e
  | .ok a e => ∀ (b : β) (B' H' : Hp), Same B B' → SI K W B' H' σ e → R B' b a → Q b H'
theorem Errs.up {k : Nat} {d : D} {e : Env'} (s : Same B B') (h : Errs K ax W σ B k d e) : Errs K ax W σ B' k d e := fun v dx B1 H1 s1 => h v dx B1 H1 (s.trans s1)
theorem Good.up {α β : Type} {R : Hp → β → α → Prop} {Q : β → Hp → Prop} {o : Out α} (s : Same B B') (h : Good R K ax W σ B Q o) : Good R K ax W σ B' Q o := by
  cases o with
  | stuck => exact h
  | err k d e => exact Errs.up s h
  | ok a e => exact fun b B1 H1 s1 => h b B1 H1 (s.trans s1)
/-- the first of two steps -/
theorem Good.bind {α β γ δ : Type} {R : Hp → β → α → Prop} {R2 : Hp → δ → γ → Prop} {Q : β → Hp → Prop} {Q2 : δ → Hp → Prop} {o : Out α} {f : α → Env' → Out γ} (h : Good R2 K ax W σ B Q2 (o.bind f))
    (k : ∀ (a : α) (e : Env') (b : β) (B' H' : Hp), Same B B' → SI K W B' H' σ e → R B' b a → Good R2 K ax W σ B' Q2 (f a e) → Q b H') : Good R K ax W σ B Q o := by
  cases o with
  | stuck => exact h.elim
  | err n d e => exact h
  | ok a e => exact fun b B1 H1 s1 si r => k a e b B1 H1 s1 si r (Good.up s1 h)
end
/-! ### the relations -/
abbrev RD (K : PySem.W.Frag) : Hp → V → D → Prop := fun B v d => Rp K B v d
abbrev RT : Hp → Bool → Bool → Prop := fun _ b a => b = a
abbrev RA (K : PySem.W.Frag) : Hp → List V → List D → Prop := fun B vs ds => RpAll K B vs ds
/-! ### soundness of a reading; judgements: a piece of syntax and its mirror -/
def SD (K : PySem.W.Frag) (ax : Ax) (te : TE) (f : M D) : Prop := ∀ (W : Wd) (B H : Hp) (σ : L2.St) (env : Env') (Q : VK), SI K W B H σ env → Good (RD K) K ax W σ B Q (f env) → te σ H Q
def ST (K : PySem.W.Frag) (ax : Ax) (tt : TT) (f : M Bool) : Prop := ∀ (W : Wd) (B H : Hp) (σ : L2.St) (env : Env') (Q : Bool → Hp → Prop), SI K W B H σ env → Good RT K ax W σ B Q (f env) → tt σ H Q
def SA (K : PySem.W.Frag) (ax : Ax) (ta : TA) (f : M (List D)) : Prop := ∀ (W : Wd) (B H : Hp) (σ : L2.St) (env : Env') (Q : List V → Hp → Prop), SI K W B H σ env → Good (RA K) K ax W σ B Q (f env) → ta σ H Q
def MD (ax : Ax) (X : Cx) (e : Expr) (f : M D) : Prop := ∃ te, PE X e te ∧ SD X.K ax te f
def MT (ax : Ax) (X : Cx) (e : Expr) (f : M Bool) : Prop := ∃ tt, PT X e tt ∧ ST X.K ax tt f
def MW (ax : Ax) (X : Cx) (e : Expr) (f : M Bool) : Prop := ∃ tt, PW X e tt ∧ ST X.K ax tt f
def MA (ax : Ax) (X : Cx) (es : List Expr) (f : M (List D)) : Prop := ∃ ta, PA X es ta ∧ SA X.K ax ta f

/-! ### operations on data -/
def ofO (o : Option D) : M D := fun e => match o with
  | none => .stuck
  | some d => .ok d e
/-- an operation that makes new things at most -/
def Pure1 (K : PySem.W.Frag) (r : V → Hp → VK → Prop) (g : D → Option D) : Prop := ∀ (B H : Hp) (x : V) (a d : D) (Q : VK), Same B H → Rp K B x a → g a = some d →
  (∀ v B' H', Grow B H [] B' H' → Rp K B' v d → Q v H') → r x H Q
def Pure2 (K : PySem.W.Frag) (r : R2) (g : D → D → Option D) : Prop := ∀ (B H : Hp) (x y : V) (a b d : D) (Q : VK), Same B H → Rp K B x a → Rp K B y b → g a b = some d →
  (∀ v B' H', Grow B H [] B' H' → Rp K B' v d → Q v H') → r x y H Q
def PureN (K : PySem.W.Frag) (r : List V → Hp → VK → Prop) (g : List D → Option D) : Prop := ∀ (B H : Hp) (xs : List V) (as : List D) (d : D) (Q : VK), Same B H → RpAll K B xs as → g as = some d →
  (∀ v B' H', Grow B H [] B' H' → Rp K B' v d → Q v H') → r xs H Q
section
variable {K : PySem.W.Frag} {ax : Ax} {W : Wd} {B B' H H' : Hp} {σ : L2.St} {env : Env'} {X : Cx}
theorem Good.ofO {o : Option D} {Q : VK} (si : SI K W B H σ env) (h : Good (RD K) K ax W σ B Q (ofO o env)) : ∃ d, o = some d ∧ ∀ v B' H', Grow B H [] B' H' → Rp K B' v d → Q v H' := by
  cases o with
  | none => exact h.elim
  | some d => exact ⟨d, rfl, fun v B' H' g r => h v B' H' g.b (si.more g) r⟩
theorem grow_same (s : Same B H) : Grow B H [] B H := Grow.refl s []
/-- nothing new -/
theorem pure_val {d : D} {v : V} {Q : VK} (s : Same B H) (q : ∀ v B' H', Grow B H [] B' H' → Rp K B' v d → Q v H') (r : Rp K B v d) : Q v H := q v B H (grow_same s) r
/-- a new object, frozen -/
theorem grow_new {p : Addr} {o : HO} (s : Same B H) (hp : H p = none) : Grow B H [] (upd B p o) (upd H p o) := by
  have hbp : B p = none := s.free hp
  refine ⟨fun b u e => by rw [upd_ne (ne_of_none e hbp)]; exact e, fun b u e => ?_, fun a h1 h2 _ => ?_, fun a u _ e => ?_, fun a e => ?_⟩
  · by_cases q : b = p
    · subst q; rw [upd_same] at e ⊢; exact e
    · rw [upd_ne q] at e ⊢; exact s _ _ e
  · have : a ≠ p := fun z => by rw [z, hp] at h2; exact h2
    rw [upd_ne this]; exact h1
  · rw [upd_ne (ne_of_none e hp)]; exact e
  · have : a ≠ p := fun z => e (by rw [z]; exact hp)
    rw [upd_ne this]; exact e
theorem pure_list {ds : List D} {vs : List V} {Q : VK} (s : Same B H) (q : ∀ v B' H', Grow B H [] B' H' → Rp K B' v (.list ds) → Q v H') (r : RpAll K B vs ds) (z : vs.length ≤ sizeLine) {p : Addr} (hp : H p = none) : Q (.ref p) (upd H p (.lst vs)) :=
  q _ _ _ (grow_new s hp) (.lst upd_same z (r.mono (grow_new s hp).b))
theorem pure_tup {ds : List D} {vs : List V} {Q : VK} (s : Same B H) (q : ∀ v B' H', Grow B H [] B' H' → Rp K B' v (.tuple ds) → Q v H') (r : RpAll K B vs ds) (z : vs.length ≤ sizeLine) {p : Addr} (hp : H p = none) : Q (.ref p) (upd H p (.tup vs)) :=
  q _ _ _ (grow_new s hp) (.tup (SqT.of upd_same) z (r.mono (grow_new s hp).b))

/-! ### composite mirrors -/
def mC (d : D) : M D := fun e => .ok d e
def mUn (g : D → Option D) (f : M D) : M D := fun e => (f e).bind fun x => ofO (g x)
def mOp (g : D → D → Option D) (f h : M D) : M D := fun e => (f e).bind fun x e => (h e).bind fun y => ofO (g x y)
def mB (g : List D → Option D) (f : M (List D)) : M D := fun e => (f e).bind fun xs => ofO (g xs)
def mNil : M (List D) := fun e => .ok [] e
def mCons (f : M D) (r : M (List D)) : M (List D) := fun e => (f e).bind fun x e => (r e).bind fun xs e => .ok (x :: xs) e
theorem sd_c {v : V} {d : D} (h : ∀ B, Rp K B v d) : SD K ax (tC v) (mC d) := fun W B H σ env Q si g => g v B H (fun _ _ e => e) si (h B)
theorem sd_un {r : V → Hp → VK → Prop} {g : D → Option D} {te : TE} {f : M D} (p : Pure1 K r g) (h : SD K ax te f) : SD K ax (tUn r te) (mUn g f) := fun W B H σ env Q si gd =>
  h W B H σ env _ si (Good.bind gd fun a e b B1 H1 s1 si1 r1 g1 => by
    obtain ⟨d, hd, q⟩ := g1.ofO si1
    exact p B1 H1 b a d Q si1.same r1 hd q)
theorem sd_op {r : R2} {g : D → D → Option D} {te tu : TE} {f h : M D} (p : Pure2 K r g) (hf : SD K ax te f) (hh : SD K ax tu h) : SD K ax (tOp r te tu) (mOp g f h) := fun W B H σ env Q si gd =>
  hf W B H σ env _ si (Good.bind gd fun a e b B1 H1 s1 si1 r1 g1 => hh W B1 H1 σ e _ si1 (Good.bind g1 fun a2 e2 b2 B2 H2 s2 si2 r2 g2 => by
    obtain ⟨d, hd, q⟩ := g2.ofO si2
    exact p B2 H2 b b2 a a2 d Q si2.same (r1.mono s2) r2 hd q))
theorem sd_cb {r : List V → Hp → VK → Prop} {g : List D → Option D} {ta : TA} {f : M (List D)} (p : PureN K r g) (h : SA K ax ta f) : SD K ax (tCB r ta) (mB g f) := fun W B H σ env Q si gd =>
  h W B H σ env _ si (Good.bind gd fun a e b B1 H1 s1 si1 r1 g1 => by
    obtain ⟨d, hd, q⟩ := g1.ofO si1
    exact p B1 H1 b a d Q si1.same r1 hd q)
theorem sa_nil : SA K ax tNil mNil := fun W B H σ env Q si g => g [] B H (fun _ _ e => e) si .nil
theorem sa_cons {te : TE} {ta : TA} {f : M D} {h : M (List D)} (hf : SD K ax te f) (hh : SA K ax ta h) : SA K ax (tCons te ta) (mCons f h) := fun W B H σ env Q si gd =>
  hf W B H σ env _ si (Good.bind gd fun a e b B1 H1 s1 si1 r1 g1 => hh W B1 H1 σ e _ si1 (Good.bind g1 fun a2 e2 b2 B2 H2 s2 si2 r2 g2 =>
    g2 _ B2 H2 (fun _ _ e => e) si2 (.cons (r1.mono s2) r2)))
/-! tests -/
def mTst (f : M D) : M Bool := fun e => (f e).bind fun x e => match x with
  | .bool b => .ok b e
  | _ => .stuck
def mAnd (f h : M Bool) : M Bool := fun e => (f e).bind fun x e => if x = true then h e else .ok false e
def mOr (f h : M Bool) : M Bool := fun e => (f e).bind fun x e => if x = true then .ok true e else h e
def mNot (f : M Bool) : M Bool := fun e => (f e).bind fun x e => .ok (!x) e
theorem Rp.bool_inv {v : V} {b : Bool} (r : Rp K B v (.bool b)) : v = .bl b := by cases r; rfl
theorem Rp.int_inv {v : V} {i : Int} (r : Rp K B v (.int i)) : v = .int i := by cases r; rfl
theorem Rp.none_inv {v : V} (r : Rp K B v .none) : v = .non := by cases r; rfl
theorem Rp.str_inv {v : V} {x : Str} (r : Rp K B v (.str x)) : v = .str x := by cases r; rfl
theorem st_tst {te : TE} {f : M D} (h : SD K ax te f) : ST K ax (tTest te) (mTst f) := fun W B H σ env Q si gd =>
  h W B H σ env _ si (Good.bind gd fun a e b B1 H1 s1 si1 r1 g1 => by
    cases a with
    | bool k => exact ⟨k, r1.bool_inv, g1 k B1 H1 (fun _ _ e => e) si1 rfl⟩
    | _ => exact g1.elim)
theorem st_and {t u : TT} {f h : M Bool} (hf : ST K ax t f) (hh : ST K ax u h) : ST K ax (tAnd t u) (mAnd f h) := fun W B H σ env Q si gd =>
  hf W B H σ env _ si (Good.bind gd fun a e b B1 H1 s1 si1 r1 g1 => by
    subst r1
    cases b with
    | true => exact hh W B1 H1 σ e Q si1 g1
    | false => exact g1 false B1 H1 (fun _ _ e => e) si1 rfl)
theorem st_or {t u : TT} {f h : M Bool} (hf : ST K ax t f) (hh : ST K ax u h) : ST K ax (tOr t u) (mOr f h) := fun W B H σ env Q si gd =>
  hf W B H σ env _ si (Good.bind gd fun a e b B1 H1 s1 si1 r1 g1 => by
    subst r1
    cases b with
    | true => exact g1 true B1 H1 (fun _ _ e => e) si1 rfl
    | false => exact hh W B1 H1 σ e Q si1 g1)
theorem st_not {t : TT} {f : M Bool} (hf : ST K ax t f) : ST K ax (tNot t) (mNot f) := fun W B H σ env Q si gd =>
  hf W B H σ env _ si (Good.bind gd fun a e b B1 H1 s1 si1 r1 g1 => by
    subst r1
    exact g1 (!b) B1 H1 (fun _ _ e => e) si1 rfl)
/-- a test as a value -/
def mOfT (f : M Bool) : M D := fun e => (f e).bind fun x e => .ok (.bool x) e
def mIfE (c : M Bool) (f h : M D) : M D := fun e => (c e).bind fun x e => if x = true then f e else h e
theorem sd_if {t : TT} {te tu : TE} {c : M Bool} {f h : M D} (hc : ST K ax t c) (hf : SD K ax te f) (hh : SD K ax tu h) : SD K ax (tIf t te tu) (mIfE c f h) := fun W B H σ env Q si gd =>
  hc W B H σ env _ si (Good.bind gd fun a e b B1 H1 s1 si1 r1 g1 => by
    subst r1
    cases b with
    | true => exact hf W B1 H1 σ e Q si1 g1
    | false => exact hh W B1 H1 σ e Q si1 g1)
/-- and, or, not of truth values, as values -/
def mAndV (f h : M D) : M D := fun e => (f e).bind fun x e => match x with
  | .bool b => if b = true then h e else .ok (.bool false) e
  | _ => .stuck
def mOrV (f h : M D) : M D := fun e => (f e).bind fun x e => match x with
  | .bool b => if b = true then .ok (.bool true) e else h e
  | _ => .stuck
def mNotV (f : M D) : M D := fun e => (f e).bind fun x e => match x with
  | .bool b => .ok (.bool (!b)) e
  | _ => .stuck
theorem sd_andV {te tu : TE} {f h : M D} (hf : SD K ax te f) (hh : SD K ax tu h) : SD K ax (tAndV te tu) (mAndV f h) := fun W B H σ env Q si gd =>
  hf W B H σ env _ si (Good.bind gd fun a e b B1 H1 s1 si1 r1 g1 => by
    cases a with
    | bool k =>
      refine ⟨k, r1.bool_inv, ?_⟩
      cases k with
      | true => exact hh W B1 H1 σ e Q si1 g1
      | false => exact g1 _ B1 H1 (fun _ _ e => e) si1 (.bl false)
    | _ => exact g1.elim)
theorem sd_orV {te tu : TE} {f h : M D} (hf : SD K ax te f) (hh : SD K ax tu h) : SD K ax (tOrV te tu) (mOrV f h) := fun W B H σ env Q si gd =>
  hf W B H σ env _ si (Good.bind gd fun a e b B1 H1 s1 si1 r1 g1 => by
    cases a with
    | bool k =>
      refine ⟨k, r1.bool_inv, ?_⟩
      cases k with
      | true => exact g1 _ B1 H1 (fun _ _ e => e) si1 (.bl true)
      | false => exact hh W B1 H1 σ e Q si1 g1
    | _ => exact g1.elim)
theorem sd_notV {te : TE} {f : M D} (hf : SD K ax te f) : SD K ax (tNotV te) (mNotV f) := fun W B H σ env Q si gd =>
  hf W B H σ env _ si (Good.bind gd fun a e b B1 H1 s1 si1 r1 g1 => by
    cases a with
    | bool k => exact ⟨k, r1.bool_inv, g1 _ B1 H1 (fun _ _ e => e) si1 (.bl _)⟩
    | _ => exact g1.elim)
end
end Lp

namespace Lp
open PySem PySem.Spec L2
set_option autoImplicit false
section
variable {K : PySem.W.Frag} {ax : Ax} {W : Wd} {B B' H H' : Hp} {σ : L2.St} {env : Env'} {v : V} {r : Sl} {d : D} {F : Nat → List Addr} {i : Nat}
/-! ### slots changed -/
theorem Slots.put {Fv : List Addr} (s : Slots K W B H σ env F) (hi : i ∉ W.io) (rv : SlV K W B H Fv v r) (hm : ∀ a ∈ Fv, Mut (H a) ∧ Ownd W B H a) (hd : ∀ j a, a ∈ F j → a ∉ Fv) :
    Slots K W B H (σ.set i (some v)) (env.set i r) (fun j => if j = i then Fv else F j) where
  len := by rw [List.length_set, List.length_set]; exact s.len
  pin := fun j hj => by
    have : i ≠ j := fun e => hi (e ▸ hj)
    rw [List.getElem?_set_ne this]; exact s.pin j hj
  at_ := fun j x e => by
    by_cases q : j = i
    · subst q
      have hj : j < env.length := by
        have := (List.getElem?_eq_some_iff.mp e).1
        rwa [List.length_set] at this
      rw [List.getElem?_set_self hj] at e
      cases e
      rw [List.getElem?_set_self (by rw [s.len]; exact hj), if_pos rfl]
      exact .inr ⟨v, rfl, rv⟩
    · rw [List.getElem?_set_ne (Ne.symm q)] at e ⊢
      rw [if_neg q]
      exact s.at_ j x e
  there := fun j a ha => by
    by_cases q : j = i
    · rw [if_pos q] at ha; exact hm a ha
    · rw [if_neg q] at ha; exact s.there j a ha
  dis := fun j k a h1 h2 => by
    by_cases q : j = i <;> by_cases q2 : k = i
    · rw [q, q2]
    · rw [if_pos q] at h1; rw [if_neg q2] at h2; exact absurd h1 (hd k a h2)
    · rw [if_neg q] at h1; rw [if_pos q2] at h2; exact absurd h2 (hd j a h1)
    · rw [if_neg q] at h1; rw [if_neg q2] at h2; exact s.dis j k a h1 h2
/-- a slot's claim is changed, not its value -/
theorem Slots.turn {Fv : List Addr} (s : Slots K W B H σ env F) (rv : SlAt K W B H Fv (σ[i]?) r) (hm : ∀ a ∈ Fv, Mut (H a) ∧ Ownd W B H a) (hd : ∀ j a, j ≠ i → a ∈ F j → a ∉ Fv) :
    Slots K W B H σ (env.set i r) (fun j => if j = i then Fv else F j) where
  len := by rw [List.length_set]; exact s.len
  pin := s.pin
  at_ := fun j x e => by
    by_cases q : j = i
    · subst q
      have hj : j < env.length := by
        have := (List.getElem?_eq_some_iff.mp e).1
        rwa [List.length_set] at this
      rw [List.getElem?_set_self hj] at e
      cases e
      rw [if_pos rfl]
      exact rv
    · rw [List.getElem?_set_ne (Ne.symm q)] at e
      rw [if_neg q]
      exact s.at_ j x e
  there := fun j a ha => by
    by_cases q : j = i
    · rw [if_pos q] at ha; exact hm a ha
    · rw [if_neg q] at ha; exact s.there j a ha
  dis := fun j k a h1 h2 => by
    by_cases q : j = i <;> by_cases q2 : k = i
    · rw [q, q2]
    · rw [if_pos q] at h1; rw [if_neg q2] at h2; exact absurd h1 (hd k a q2 h2)
    · rw [if_neg q] at h1; rw [if_pos q2] at h2; exact absurd h2 (hd j a q h1)
    · rw [if_neg q] at h1; rw [if_neg q2] at h2; exact s.dis j k a h1 h2
theorem SIV.put (h : SIV K W B H σ env v r) (hi : i ∉ W.io) : SI K W B H (σ.set i (some v)) (env.set i r) := by
  obtain ⟨g, F, Fv, s, rv, hm, hd⟩ := h
  exact ⟨g, _, s.put hi rv hm hd⟩
theorem SI.put (h : SI K W B H σ env) (hi : i ∉ W.io) (rv : Rp K B v d) : SI K W B H (σ.set i (some v)) (env.set i (.dat d)) := (h.dat rv).put hi
theorem SI.forget (h : SI K W B H σ env) (i : Nat) : SI K W B H σ (env.set i .un) := by
  obtain ⟨g, F, s⟩ := h
  exact ⟨g, _, s.turn (Fv := []) (.inl rfl) (by simp) (by simp)⟩
theorem SI.at_dat (h : SI K W B H σ env) (e : env[i]? = some (.dat d)) : ∃ v, σ[i]? = some (some v) ∧ Rp K B v d := by
  obtain ⟨g, F, s⟩ := h
  rcases s.at_ i _ e with q | q
  · cases q
  · exact q
/-- an own list is frozen -/
theorem SI.freeze {ds : List D} (h : SI K W B H σ env) (e : env[i]? = some (.own ds)) : ∃ v B', σ[i]? = some (some v) ∧ Same B B' ∧ Rp K B' v (.list ds) ∧ SI K W B' H σ (env.set i (.dat (.list ds))) := by
  obtain ⟨g, F, s⟩ := h
  rcases s.at_ i _ e with q | ⟨v, ev, p, vs, rfl, hpF, o, hp, rs, z⟩
  · cases q
  have sb : Same B (upd B p (.lst vs)) := fun b u e => by rw [upd_ne (ne_of_none e o.nb)]; exact e
  have rl : Rp K (upd B p (.lst vs)) (.ref p) (.list ds) := .lst upd_same z (rs.mono sb)
  refine ⟨.ref p, upd B p (.lst vs), ev, sb, rl, ⟨g.b.trans sb, fun b u e => ?_, fun a h1 h2 h3 => ?_, g.keep, g.st⟩, fun j => if j = i then [] else F j, ?_⟩
  · by_cases q : b = p
    · subst q; rw [upd_same] at e; cases e; exact hp
    · rw [upd_ne q] at e; exact g.bh _ _ e
  · have : a ≠ p := fun q => by
      subst q
      rcases o.fr with z | z
      · rw [z] at h2; exact h2
      · exact h3 z
    rw [upd_ne this]; exact g.fr a h1 h2 h3
  · refine ⟨by rw [List.length_set]; exact s.len, s.pin, fun j x e2 => ?_, fun j a ha => ?_, fun j k a h1 h2 => ?_⟩
    · by_cases q : j = i
      · subst q
        have hj : j < env.length := (List.getElem?_eq_some_iff.mp e).1
        rw [List.getElem?_set_self hj] at e2
        cases e2
        exact .inr ⟨.ref p, ev, rl⟩
      · rw [List.getElem?_set_ne (Ne.symm q)] at e2
        rw [if_neg q]
        refine (s.at_ j x e2).grow sb (fun a ha hb => ?_) fun _ _ _ h => h
        have : a ≠ p := fun z => q (s.dis j i a ha (z ▸ hpF))
        rw [upd_ne this]; exact hb
    · by_cases q : j = i
      · rw [if_pos q] at ha; simp at ha
      · rw [if_neg q] at ha
        obtain ⟨m, o'⟩ := s.there j a ha
        have : a ≠ p := fun z => q (s.dis j i a ha (z ▸ hpF))
        exact ⟨m, by rw [upd_ne this]; exact o'.nb, o'.fr⟩
    · by_cases q : j = i
      · rw [if_pos q] at h1; simp at h1
      · by_cases q2 : k = i
        · rw [if_pos q2] at h2; simp at h2
        · rw [if_neg q] at h1; rw [if_neg q2] at h2; exact s.dis j k a h1 h2
/-- an own list is written -/
theorem SI.write {ds : List D} (h : SI K W B H σ env) (e : env[i]? = some (.own ds)) : ∃ p vs, σ[i]? = some (some (.ref p)) ∧ H p = some (.lst vs) ∧ RpAll K B vs ds ∧ vs.length ≤ sizeLine ∧
    ∀ vs' ds', RpAll K B vs' ds' → vs'.length ≤ sizeLine → SI K W B (upd H p (.lst vs')) σ (env.set i (.own ds')) := by
  obtain ⟨g, F, s⟩ := h
  rcases s.at_ i _ e with q | ⟨v, ev, p, vs, rfl, hpF, o, hp, rs, z⟩
  · cases q
  refine ⟨p, vs, ev, hp, rs, z, fun vs' ds' rs' z' => ⟨⟨g.b, fun b u e => ?_, g.fr, fun a u h1 h2 => ?_, fun a h1 => ?_⟩, F, ?_⟩⟩
  · rw [upd_ne (ne_of_none e o.nb)]; exact g.bh _ _ e
  · have : a ≠ p := fun q => by
      subst q
      rcases o.fr with z | z
      · rw [z] at h2; cases h2
      · exact h1 z
    rw [upd_ne this]; exact g.keep a u h1 h2
  · by_cases q : a = p
    · rw [q, upd_same]; simp
    · rw [upd_ne q]; exact g.st a h1
  · refine ⟨by rw [List.length_set]; exact s.len, s.pin, fun j x e2 => ?_, fun j a ha => ?_, s.dis⟩
    · by_cases q : j = i
      · subst q
        have hj : j < env.length := (List.getElem?_eq_some_iff.mp e).1
        rw [List.getElem?_set_self hj] at e2
        cases e2
        exact .inr ⟨.ref p, ev, p, vs', rfl, hpF, ⟨o.nb, o.fr⟩, upd_same, rs', z'⟩
      · rw [List.getElem?_set_ne (Ne.symm q)] at e2
        refine (s.at_ j x e2).grow (fun _ _ h => h) (fun _ _ h => h) fun a ha u hu => ?_
        have : a ≠ p := fun z => q (s.dis j i a ha (z ▸ hpF))
        rw [upd_ne this]; exact hu
    · obtain ⟨m, o'⟩ := s.there j a ha
      refine ⟨?_, o'.nb, o'.fr⟩
      by_cases q : a = p
      · rw [q, upd_same]; trivial
      · rw [upd_ne q]; exact m

/-- an own thing is frozen -/
theorem SI.freezeX {r0 : Sl} {dd : D} (h : SI K W B H σ env) (e : env[i]? = some r0) (nu : r0 ≠ .un) (one : ∀ F v, SlV K W B H F v r0 → ∃ p ob, v = .ref p ∧ p ∈ F ∧ Ownd W B H p ∧ H p = some ob ∧ (Same B (upd B p ob) → Rp K (upd B p ob) (.ref p) dd)) :
    ∃ v B', σ[i]? = some (some v) ∧ Same B B' ∧ Rp K B' v dd ∧ SI K W B' H σ (env.set i (.dat dd)) := by
  obtain ⟨g, F, s⟩ := h
  rcases s.at_ i _ e with q | ⟨v, ev, sv⟩
  · exact absurd q nu
  obtain ⟨p, ob, rfl, hpF, o, hp, mk⟩ := one _ _ sv
  have sb : Same B (upd B p ob) := fun b u e => by rw [upd_ne (ne_of_none e o.nb)]; exact e
  have rl := mk sb
  refine ⟨.ref p, upd B p ob, ev, sb, rl, ⟨g.b.trans sb, fun b u e => ?_, fun a h1 h2 h3 => ?_, g.keep, g.st⟩, fun j => if j = i then [] else F j, ?_⟩
  · by_cases q : b = p
    · subst q; rw [upd_same] at e; cases e; exact hp
    · rw [upd_ne q] at e; exact g.bh _ _ e
  · have : a ≠ p := fun q => by
      subst q
      rcases o.fr with z | z
      · rw [z] at h2; exact h2
      · exact h3 z
    rw [upd_ne this]; exact g.fr a h1 h2 h3
  · refine ⟨by rw [List.length_set]; exact s.len, s.pin, fun j x e2 => ?_, fun j a ha => ?_, fun j k a h1 h2 => ?_⟩
    · by_cases q : j = i
      · subst q
        have hj : j < env.length := (List.getElem?_eq_some_iff.mp e).1
        rw [List.getElem?_set_self hj] at e2
        cases e2
        exact .inr ⟨.ref p, ev, rl⟩
      · rw [List.getElem?_set_ne (Ne.symm q)] at e2
        rw [if_neg q]
        refine (s.at_ j x e2).grow sb (fun a ha hb => ?_) fun _ _ _ h => h
        have : a ≠ p := fun z => q (s.dis j i a ha (z ▸ hpF))
        rw [upd_ne this]; exact hb
    · by_cases q : j = i
      · rw [if_pos q] at ha; simp at ha
      · rw [if_neg q] at ha
        obtain ⟨m, o'⟩ := s.there j a ha
        have : a ≠ p := fun z => q (s.dis j i a ha (z ▸ hpF))
        exact ⟨m, by rw [upd_ne this]; exact o'.nb, o'.fr⟩
    · by_cases q : j = i
      · rw [if_pos q] at h1; simp at h1
      · by_cases q2 : k = i
        · rw [if_pos q2] at h2; simp at h2
        · rw [if_neg q] at h1; rw [if_neg q2] at h2; exact s.dis j k a h1 h2
/-- an own thing is written -/
theorem SI.writeX {r0 : Sl} {C : Addr → HO → Prop} (h : SI K W B H σ env) (e : env[i]? = some r0) (nu : r0 ≠ .un) (one : ∀ F v, SlV K W B H F v r0 → ∃ p ob, v = .ref p ∧ p ∈ F ∧ Ownd W B H p ∧ H p = some ob ∧ C p ob) :
    ∃ p ob, σ[i]? = some (some (.ref p)) ∧ H p = some ob ∧ C p ob ∧ ∀ ob' r', Mut (some ob') → (∀ F, p ∈ F → Ownd W B (upd H p ob') p → SlV K W B (upd H p ob') F (.ref p) r') → SI K W B (upd H p ob') σ (env.set i r') := by
  obtain ⟨g, F, s⟩ := h
  rcases s.at_ i _ e with q | ⟨v, ev, sv⟩
  · exact absurd q nu
  obtain ⟨p, ob, rfl, hpF, o, hp, hC⟩ := one _ _ sv
  refine ⟨p, ob, ev, hp, hC, fun ob' r' mu mk => ⟨⟨g.b, fun b u e => ?_, g.fr, fun a u h1 h2 => ?_, fun a h1 => ?_⟩, F, ?_⟩⟩
  · rw [upd_ne (ne_of_none e o.nb)]; exact g.bh _ _ e
  · have : a ≠ p := fun q => by
      subst q
      rcases o.fr with z | z
      · rw [z] at h2; cases h2
      · exact h1 z
    rw [upd_ne this]; exact g.keep a u h1 h2
  · by_cases q : a = p
    · rw [q, upd_same]; simp
    · rw [upd_ne q]; exact g.st a h1
  · refine ⟨by rw [List.length_set]; exact s.len, s.pin, fun j x e2 => ?_, fun j a ha => ?_, s.dis⟩
    · by_cases q : j = i
      · subst q
        have hj : j < env.length := (List.getElem?_eq_some_iff.mp e).1
        rw [List.getElem?_set_self hj] at e2
        cases e2
        exact .inr ⟨.ref p, ev, mk _ hpF ⟨o.nb, o.fr⟩⟩
      · rw [List.getElem?_set_ne (Ne.symm q)] at e2
        refine (s.at_ j x e2).grow (fun _ _ h => h) (fun _ _ h => h) fun a ha u hu => ?_
        have : a ≠ p := fun z => q (s.dis j i a ha (z ▸ hpF))
        rw [upd_ne this]; exact hu
    · obtain ⟨m, o'⟩ := s.there j a ha
      refine ⟨?_, o'.nb, o'.fr⟩
      by_cases q : a = p
      · rw [q, upd_same]; exact mu
      · rw [upd_ne q]; exact m

/-- a dict of rows, as data -/
def dctD (kvs : List (List Int × D)) : D := .dict (kvs.map fun q => (.tuple (q.1.map .int), q.2))
theorem dcx_eq {L : List DRow} {kvs : List (List Int × D)} (h : L.map (·.1) = kvs.map (·.1)) : (L.map fun p => PyData.tuple (p.1.map .int)).zip (kvs.map (·.2)) = kvs.map fun q => (PyData.tuple (q.1.map .int), q.2) := by
  have e : (L.map fun p => PyData.tuple (p.1.map .int)) = kvs.map fun q => PyData.tuple (q.1.map .int) := by
    have := congrArg (List.map fun k : List Int => PyData.tuple (k.map .int)) h
    rw [List.map_map, List.map_map] at this
    exact this
  rw [e]
  clear e h
  induction kvs with
  | nil => rfl
  | cons q kvs ih => rw [List.map_cons, List.map_cons, List.zip_cons_cons, ih]; rfl
theorem SI.freezeT {kvs : List (List Int × D)} (h : SI K W B H σ env) (e : env[i]? = some (.dcT kvs)) : ∃ v B', σ[i]? = some (some v) ∧ Same B B' ∧ Rp K B' v (dctD kvs) ∧ SI K W B' H σ (env.set i (.dat (dctD kvs))) :=
  h.freezeX e (fun z => nomatch z) fun F v sv => by
    obtain ⟨p, L, rfl, m, o, hp, t, k, r⟩ := sv
    refine ⟨p, _, rfl, m, o, hp, fun sb => ?_⟩
    have := Rp.dcx (K := K) (B := upd B p (DicO p L)) upd_same (fun q hq => Same.sqT sb (t q hq)) (r.mono sb)
    rw [dcx_eq k] at this
    exact this
/-! ### names -/
def mVar (i : Nat) : M D := fun e => match e[i]? with
  | some (.dat d) => .ok d e
  | some (.own ds) => .ok (.list ds) (e.set i (.dat (.list ds)))
  | some (.dcT kvs) => .ok (dctD kvs) (e.set i (.dat (dctD kvs)))
  | _ => .stuck
theorem sd_var : SD K ax (tVar i) (mVar i) := fun W B H σ env Q si gd => by
  unfold mVar at gd
  cases h : env[i]? with
  | none => rw [h] at gd; exact gd.elim
  | some s =>
    rw [h] at gd
    cases s with
    | dat d =>
      obtain ⟨v, ev, r⟩ := si.at_dat h
      exact ⟨v, ev, gd v B H (fun _ _ e => e) si r⟩
    | own ds =>
      obtain ⟨v, B', ev, sb, r, si'⟩ := si.freeze h
      exact ⟨v, ev, gd v B' H sb si' r⟩
    | dcT kvs =>
      obtain ⟨v, B', ev, sb, r, si'⟩ := si.freezeT h
      exact ⟨v, ev, gd v B' H sb si' r⟩
    | _ => exact gd.elim

/-! ### statements -/
def ErrsS (K : PySem.W.Frag) (ax : Ax) (W : Wd) (B : Hp) (k : Nat) (d : D) (e : Env') : Prop := ∀ σ, Errs K ax W σ B k d e
def GoodS (K : PySem.W.Frag) (ax : Ax) (W : Wd) (B : Hp) (E : Ends) : Out Ctl → Prop
  | .stuck => False
  | .err k d e => ErrsS K ax W B k d e
  | .ok .next e => ∀ σ' B' H', Same B B' → SI K W B' H' σ' e → E.nx σ' H'
  | .ok .brk e => ∀ σ' B' H', Same B B' → SI K W B' H' σ' e → E.bk σ' H'
  | .ok .cnt e => ∀ σ' B' H', Same B B' → SI K W B' H' σ' e → E.ct σ' H'
  | .ok (.ret r) e => ∀ σ' v B' H', Same B B' → SIV K W B' H' σ' e v r → E.rt v H'
theorem GoodS.up {E : Ends} {o : Out Ctl} (s : Same B B') (h : GoodS K ax W B E o) : GoodS K ax W B' E o := by
  cases o with
  | stuck => exact h
  | err k d e => exact fun σ => Errs.up s (h σ)
  | ok c e =>
    cases c with
    | next => exact fun σ' B1 H1 s1 => h σ' B1 H1 (s.trans s1)
    | brk => exact fun σ' B1 H1 s1 => h σ' B1 H1 (s.trans s1)
    | cnt => exact fun σ' B1 H1 s1 => h σ' B1 H1 (s.trans s1)
    | ret r => exact fun σ' v B1 H1 s1 => h σ' v B1 H1 (s.trans s1)
def SS (K : PySem.W.Frag) (ax : Ax) (io : List Nat) (ts : TS) (m : M Ctl) : Prop := ∀ (W : Wd) (B H : Hp) (σ : L2.St) (env : Env') (E : Ends), W.io = io → SI K W B H σ env → GoodS K ax W B E (m env) → ts E σ H
def MS (ax : Ax) (io : List Nat) (X : Cx) (st : Stmt) (m : M Ctl) : Prop := ∃ ts, PS X st ts ∧ SS X.K ax io ts m
def MSs (ax : Ax) (io : List Nat) (X : Cx) (st : List Stmt) (m : M Ctl) : Prop := ∃ ts, PSs X st ts ∧ SS X.K ax io ts m
/-- an expression ahead of a statement's end -/
theorem GoodS.bind {α β : Type} {R : Hp → β → α → Prop} {Q : β → Hp → Prop} {E : Ends} {o : Out α} {f : α → Env' → Out Ctl} (h : GoodS K ax W B E (o.bind f))
    (k : ∀ (a : α) (e : Env') (b : β) (B' H' : Hp), Same B B' → SI K W B' H' σ e → R B' b a → GoodS K ax W B' E (f a e) → Q b H') : Good R K ax W σ B Q o := by
  cases o with
  | stuck => exact h.elim
  | err n d e => exact h σ
  | ok a e => exact fun b B1 H1 s1 si r => k a e b B1 H1 s1 si r (GoodS.up s1 h)
variable {io : List Nat} {X : Cx}
def mNext : M Ctl := fun e => .ok .next e
def mBrk : M Ctl := fun e => .ok .brk e
def mCnt : M Ctl := fun e => .ok .cnt e
def Out.seq (o : Out Ctl) (f : Env' → Out Ctl) : Out Ctl := match o with
  | .ok .next e => f e
  | o => o
def mSeq (a b : M Ctl) : M Ctl := fun e => (a e).seq b
theorem ss_next : SS K ax io tNext mNext := fun W B H σ env E _ si g => g σ B H (fun _ _ e => e) si
theorem ss_brk : SS K ax io tBreak mBrk := fun W B H σ env E _ si g => g σ B H (fun _ _ e => e) si
theorem ss_cnt : SS K ax io tCont mCnt := fun W B H σ env E _ si g => g σ B H (fun _ _ e => e) si
theorem ss_seq {t u : TS} {a b : M Ctl} (ha : SS K ax io t a) (hb : SS K ax io u b) : SS K ax io (tSeq t u) (mSeq a b) := fun W B H σ env E hio si g => by
  refine ha W B H σ env { E with nx := u E } hio si ?_
  have g' : GoodS K ax W B E ((a env).seq b) := g
  cases h : a env with
  | stuck => rw [h] at g'; exact g'
  | err k d e => rw [h] at g'; exact g'
  | ok c e =>
    rw [h] at g'
    cases c with
    | next => exact fun σ' B' H' s si' => hb W B' H' σ' e E hio si' (GoodS.up s g')
    | brk => exact g'
    | cnt => exact g'
    | ret r => exact g'
def mRet (f : M D) : M Ctl := fun e => (f e).bind fun d e => .ok (.ret (.dat d)) e
theorem ss_ret {te : TE} {f : M D} (h : SD K ax te f) : SS K ax io (tRet te) (mRet f) := fun W B H σ env E _ si g =>
  h W B H σ env E.rt si (GoodS.bind g fun a e b B1 H1 s1 si1 r1 g1 => g1 σ b B1 H1 (fun _ _ e => e) (si1.dat r1))
def mRetN : M Ctl := fun e => .ok (.ret (.dat .none)) e
theorem ss_retN : SS K ax io tRetN mRetN := fun W B H σ env E _ si g => g σ .non B H (fun _ _ e => e) (si.dat .non)
def mDo (f : M D) : M Ctl := fun e => (f e).bind fun _ e => .ok .next e
theorem ss_do {te : TE} {f : M D} (h : SD K ax te f) : SS K ax io (tDrop te) (mDo f) := fun W B H σ env E _ si g =>
  h W B H σ env _ si (GoodS.bind g fun a e b B1 H1 s1 si1 r1 g1 => g1 σ B1 H1 (fun _ _ e => e) si1)
def mIf (c : M Bool) (a b : M Ctl) : M Ctl := fun e => (c e).bind fun x e => if x = true then a e else b e
theorem ss_if {tc : TT} {t u : TS} {c : M Bool} {a b : M Ctl} (hc : ST K ax tc c) (ha : SS K ax io t a) (hb : SS K ax io u b) : SS K ax io (tIfS tc t u) (mIf c a b) := fun W B H σ env E hio si g =>
  hc W B H σ env _ si (GoodS.bind g fun x e y B1 H1 s1 si1 r1 g1 => by
    subst r1
    cases y with
    | true => exact ha W B1 H1 σ e E hio si1 g1
    | false => exact hb W B1 H1 σ e E hio si1 g1)
/-! targets -/
def SG (K : PySem.W.Frag) (io : List Nat) (g : TG) (t : D → Env' → Option Env') : Prop := ∀ (W : Wd) (B H : Hp) (σ : L2.St) (env env' : Env') (v : V) (d : D) (Q : L2.St → Hp → Prop), W.io = io → SI K W B H σ env → Rp K B v d → t d env = some env' →
  (∀ σ', SI K W B H σ' env' → Q σ' H) → g v σ H Q
def SGs (K : PySem.W.Frag) (io : List Nat) (g : TGs) (t : List D → Env' → Option Env') : Prop := ∀ (W : Wd) (B H : Hp) (σ : L2.St) (env env' : Env') (vs : List V) (ds : List D) (Q : L2.St → Hp → Prop), W.io = io → SI K W B H σ env → RpAll K B vs ds → t ds env = some env' →
  (∀ σ', SI K W B H σ' env' → Q σ' H) → g vs σ H Q
def gtN (i : Nat) : D → Env' → Option Env' := fun d e => some (e.set i (.dat d))
def gtNil : List D → Env' → Option Env' := fun ds e => match ds with
  | [] => some e
  | _ => none
def gtCons (t : D → Env' → Option Env') (u : List D → Env' → Option Env') : List D → Env' → Option Env' := fun ds e => match ds with
  | [] => none
  | d :: r => (t d e).bind fun e => u r e
def gtTup (t : List D → Env' → Option Env') : D → Env' → Option Env' := fun d e => match d with
  | .tuple ds => t ds e
  | _ => none
theorem sg_name (hi : i ∉ io) : SG K io (gName i) (gtN i) := fun W B H σ env env' v d Q hio si r e k => by
  cases e
  exact k _ (si.put (hio ▸ hi) r)
theorem sgs_nil : SGs K io gNil gtNil := fun W B H σ env env' vs ds Q _ si r e k => by
  cases r with
  | nil => cases e; exact ⟨rfl, k _ si⟩
  | cons _ _ => cases e
theorem sgs_cons {g : TG} {gs : TGs} {t : D → Env' → Option Env'} {u : List D → Env' → Option Env'} (h : SG K io g t) (hs : SGs K io gs u) : SGs K io (gCons g gs) (gtCons t u) := fun W B H σ env env' vs ds Q hio si r e k => by
  cases r with
  | nil => cases e
  | cons r rs =>
    rename_i v vs d ds
    obtain ⟨e1, h1, h2⟩ := Option.bind_eq_some_iff.mp (show (t d env).bind (fun e => u ds e) = some env' from e)
    exact ⟨v, vs, rfl, h W B H σ env e1 v d _ hio si r h1 fun σ' si' => hs W B H σ' e1 env' vs ds Q hio si' rs h2 k⟩
theorem sg_tup {n : Nat} {gs : TGs} {u : List D → Env' → Option Env'} (hs : SGs K io gs u) (hn : ∀ ds e, ds.length ≠ n → u ds e = none) : SG K io (gTup K n gs) (gtTup u) := fun W B H σ env env' v d Q hio si r e k => by
  cases r with
  | tup hq z rs =>
    rename_i a xs ds
    have e' : u ds env = some env' := e
    have hl : ds.length = n := Classical.byContradiction fun q => by rw [hn ds env q] at e'; cases e'
    exact ⟨a, xs, rfl, Same.sqT si.same hq, by rw [rs.length]; exact hl, hs W B H σ env env' xs ds Q hio si rs e' k⟩
  | _ => cases e
def mAsgT (f : M D) (t : D → Env' → Option Env') : M Ctl := fun e => (f e).bind fun d e => match t d e with
  | some e => .ok .next e
  | none => .stuck
theorem ss_asgT {te : TE} {g : TG} {f : M D} {t : D → Env' → Option Env'} (h : SD K ax te f) (hg : SG K io g t) : SS K ax io (tAsg te g) (mAsgT f t) := fun W B H σ env E hio si gd =>
  h W B H σ env _ si (GoodS.bind gd fun a e b B1 H1 s1 si1 r1 g1 => by
    cases q : t a e with
    | none => rw [q] at g1; exact g1.elim
    | some e2 =>
      rw [q] at g1
      exact hg W B1 H1 σ e e2 b a _ hio si1 r1 q fun σ' si' => g1 σ' B1 H1 (fun _ _ e => e) si')
def mAsg (i : Nat) (f : M D) : M Ctl := fun e => (f e).bind fun d e => .ok .next (e.set i (.dat d))
theorem ss_asg {te : TE} {f : M D} (h : SD K ax te f) (hi : i ∉ io) : SS K ax io (tAsg te (gName i)) (mAsg i f) := ss_asgT (t := gtN i) h (sg_name hi)
/-- slots forgotten -/
def mForget (is : List Nat) : M Ctl := fun e => .ok .next (is.foldl (fun e i => e.set i .un) e)
theorem SI.forgets (is : List Nat) : ∀ {env : Env'}, SI K W B H σ env → SI K W B H σ (is.foldl (fun e i => e.set i .un) env) := by
  induction is with
  | nil => exact fun h => h
  | cons i r ih => exact fun h => ih (h.forget i)
/-- behind a statement slots are forgotten -/
def mThenF (is : List Nat) (m : M Ctl) : M Ctl := fun e => (m e).seq (mForget is)
theorem ss_thenF {t : TS} {m : M Ctl} (is : List Nat) (h : SS K ax io t m) : SS K ax io t (mThenF is m) := fun W B H σ env E hio si g => by
  refine h W B H σ env E hio si ?_
  have g' : GoodS K ax W B E ((m env).seq (mForget is)) := g
  cases q : m env with
  | stuck => rw [q] at g'; exact g'
  | err k d e => rw [q] at g'; exact g'
  | ok c e =>
    rw [q] at g'
    cases c with
    | next => exact fun σ' B' H' s si' => g' σ' B' H' s (si'.forgets is)
    | brk => exact g'
    | cnt => exact g'
    | ret r => exact g'
end
end Lp

namespace Lp
open PySem PySem.Spec L2
set_option autoImplicit false
section
variable {K : PySem.W.Frag} {ax : Ax} {W : Wd} {B B' H H' : Hp} {σ : L2.St} {env : Env'} {io : List Nat} {X : Cx}
/-! ### what is walked -/
def Yields (K : PySem.W.Frag) (B1 : Hp) (J : It) (ds : List D) : Prop := ∀ (B H : Hp) (i : Nat), Same B1 B → Same B H →
  (∀ d, ds[i]? = some d → J.go i H ∧ ∀ x H', J.yld i H x H' → ∃ B', Grow B H [] B' H' ∧ Rp K B' x d) ∧ (ds.length ≤ i → J.stop i H)
abbrev RI (K : PySem.W.Frag) : Hp → It → List D → Prop := fun B J ds => Yields K B J ds
def SIt (K : PySem.W.Frag) (ax : Ax) (wi : TI) (it : M (List D)) : Prop := ∀ (W : Wd) (B H : Hp) (σ : L2.St) (env : Env') (R : It → Hp → Prop), SI K W B H σ env → Good (RI K) K ax W σ B R (it env) → wi σ H R
def MI (ax : Ax) (X : Cx) (tg iter : Expr) (it : M (List D)) : Prop := ∃ wi, PI X tg iter wi ∧ SIt X.K ax wi it
theorem yields_list {B1 : Hp} {a : Addr} {xs : List V} {ds : List D} (h : SqL K B1 a xs) (r : RpAll K B1 xs ds) : Yields K B1 (Itl K a) ds := fun B H i s1 s2 => by
  have h2 : SqL K H a xs := (s1.trans s2).seq h
  refine ⟨fun d e => ?_, fun hl => ⟨xs, h2, by rw [r.length]; exact hl⟩⟩
  obtain ⟨v, ev, rv⟩ := r.get' e
  refine ⟨⟨xs, v, h2, ev⟩, fun x H' y => ?_⟩
  obtain ⟨rfl, q⟩ := y
  have ex := q xs h2
  rw [ev] at ex
  cases ex
  exact ⟨B, grow_same s2, rv.mono s1⟩
theorem yields_tup {B1 : Hp} {a : Addr} {xs : List V} {ds : List D} (h : SqT K B1 a xs) (r : RpAll K B1 xs ds) : Yields K B1 (Itt K a) ds := fun B H i s1 s2 => by
  have h2 : SqT K H a xs := Same.sqT (s1.trans s2) h
  refine ⟨fun d e => ?_, fun hl => ⟨xs, h2, by rw [r.length]; exact hl⟩⟩
  obtain ⟨v, ev, rv⟩ := r.get' e
  refine ⟨⟨xs, v, h2, ev⟩, fun x H' y => ?_⟩
  obtain ⟨rfl, q⟩ := y
  have ex := q xs h2
  rw [ev] at ex
  cases ex
  exact ⟨B, grow_same s2, rv.mono s1⟩
def rng (lo : Int) (n : Nat) : List D := (List.range n).map fun i => .int (lo + (i : Nat))
theorem rng_len (lo : Int) (n : Nat) : (rng lo n).length = n := by unfold rng; rw [List.length_map, List.length_range]
theorem rng_get {lo : Int} {n i : Nat} {d : D} (h : (rng lo n)[i]? = some d) : i < n ∧ d = .int (lo + (i : Nat)) := by
  have hl := (List.getElem?_eq_some_iff.mp h).1
  rw [rng_len] at hl
  unfold rng at h
  rw [List.getElem?_map, List.getElem?_range hl] at h
  exact ⟨hl, (Option.some.inj h).symm⟩
theorem yields_rng {B1 : Hp} {lo : Int} {n : Nat} : Yields K B1 (Itr lo n) (rng lo n) := fun B H i s1 s2 => by
  refine ⟨fun d e => ?_, fun hl => by rw [rng_len] at hl; exact hl⟩
  obtain ⟨hi, rfl⟩ := rng_get e
  refine ⟨hi, fun x H' y => ?_⟩
  obtain ⟨rfl, rfl⟩ := y
  exact ⟨B, grow_same s2, .int _⟩
def enumD (ds : List D) : List D := (List.range ds.length).map fun i => .tuple [.int (i : Nat), ds.getD i .none]
theorem yields_enum {B1 : Hp} {a : Addr} {xs : List V} {ds : List D} (h : SqL K B1 a xs) (r : RpAll K B1 xs ds) : Yields K B1 (Ite K a) (enumD ds) := fun B H i s1 s2 => by
  have h2 : SqL K H a xs := (s1.trans s2).seq h
  have el : (enumD ds).length = ds.length := by unfold enumD; rw [List.length_map, List.length_range]
  refine ⟨fun d e => ?_, fun hl => ⟨xs, h2, by rw [r.length, ← el]; exact hl⟩⟩
  have hi : i < ds.length := by rw [← el]; exact (List.getElem?_eq_some_iff.mp e).1
  unfold enumD at e
  rw [List.getElem?_map, List.getElem?_range hi] at e
  have e' := (Option.some.inj e).symm
  subst e'
  have eg : ds[i]? = some (ds.getD i .none) := by rw [List.getD_eq_getElem?_getD, List.getElem?_eq_getElem hi]; rfl
  obtain ⟨v, ev, rv⟩ := r.get' eg
  refine ⟨⟨xs, v, h2, ev⟩, fun x H' y => ?_⟩
  obtain ⟨T, y, rfl, nT, rfl, q⟩ := y
  have ex := q xs h2
  rw [ev] at ex
  cases ex
  exact ⟨_, grow_new s2 nT, .tup (SqT.of upd_same) (by show 2 ≤ sizeLine; decide) (.cons (.int _) (.cons (rv.mono (s1.trans (grow_new s2 nT).b)) .nil))⟩
def zipD : List D → List D → List D
  | a :: r, b :: s => .tuple [a, b] :: zipD r s
  | _, _ => []
theorem zipD_get : ∀ {as bs : List D} {i : Nat} {d : D}, (zipD as bs)[i]? = some d → ∃ a b, as[i]? = some a ∧ bs[i]? = some b ∧ d = .tuple [a, b]
  | [], _, i, d, h => by simp [zipD] at h
  | _ :: _, [], i, d, h => by simp [zipD] at h
  | a :: r, b :: s, 0, d, h => ⟨a, b, rfl, rfl, by simp [zipD] at h; exact h.symm⟩
  | a :: r, b :: s, i + 1, d, h => by
    simp only [zipD, List.getElem?_cons_succ] at h ⊢
    exact zipD_get h
theorem zipD_len : ∀ (as bs : List D), (zipD as bs).length = min as.length bs.length
  | [], _ => by simp [zipD]
  | _ :: _, [] => by simp [zipD]
  | a :: r, b :: s => by simp only [zipD, List.length_cons]; rw [zipD_len r s]; omega
theorem yields_zipL {B1 : Hp} {a b : Addr} {xs ys : List V} {ds es : List D} (h : SqL K B1 a xs) (r : RpAll K B1 xs ds) (h' : SqL K B1 b ys) (r' : RpAll K B1 ys es) : Yields K B1 (Itz K a b) (zipD ds es) := fun B H i s1 s2 => by
  have h2 : SqL K H a xs := (s1.trans s2).seq h
  have h2' : SqL K H b ys := (s1.trans s2).seq h'
  refine ⟨fun d e => ?_, fun hl => ⟨xs, ys, h2, h2', by rw [r.length, r'.length]; rw [zipD_len] at hl; omega⟩⟩
  obtain ⟨x, y, ea, eb, rfl⟩ := zipD_get e
  obtain ⟨v, ev, rv⟩ := r.get' ea
  obtain ⟨u, eu, ru⟩ := r'.get' eb
  refine ⟨⟨xs, ys, v, u, h2, h2', ev, eu⟩, fun x H' y => ?_⟩
  obtain ⟨T, x1, y1, rfl, nT, rfl, q, q'⟩ := y
  have ex := q xs h2
  rw [ev] at ex
  cases ex
  have ey := q' ys h2'
  rw [eu] at ey
  cases ey
  have sb := s1.trans (grow_new (o := .tup [v, u]) s2 nT).b
  exact ⟨_, grow_new s2 nT, .tup (SqT.of upd_same) (by show 2 ≤ sizeLine; decide) (.cons (rv.mono sb) (.cons (ru.mono sb) .nil))⟩
theorem yields_zipT {B1 : Hp} {a b : Addr} {xs ys : List V} {ds es : List D} (h : SqT K B1 a xs) (r : RpAll K B1 xs ds) (h' : SqT K B1 b ys) (r' : RpAll K B1 ys es) : Yields K B1 (RZ.ItzT K a b) (zipD ds es) := fun B H i s1 s2 => by
  have h2 : SqT K H a xs := Same.sqT (s1.trans s2) h
  have h2' : SqT K H b ys := Same.sqT (s1.trans s2) h'
  refine ⟨fun d e => ?_, fun hl => ⟨xs, ys, h2, h2', by rw [r.length, r'.length]; rw [zipD_len] at hl; omega⟩⟩
  obtain ⟨x, y, ea, eb, rfl⟩ := zipD_get e
  obtain ⟨v, ev, rv⟩ := r.get' ea
  obtain ⟨u, eu, ru⟩ := r'.get' eb
  refine ⟨⟨xs, ys, v, u, h2, h2', ev, eu⟩, fun x H' y => ?_⟩
  obtain ⟨T, x1, y1, rfl, nT, rfl, q, q'⟩ := y
  have ex := q xs h2
  rw [ev] at ex
  cases ex
  have ey := q' ys h2'
  rw [eu] at ey
  cases ey
  have sb := s1.trans (grow_new (o := .tup [v, u]) s2 nT).b
  exact ⟨_, grow_new s2 nT, .tup (SqT.of upd_same) (by show 2 ≤ sizeLine; decide) (.cons (rv.mono sb) (.cons (ru.mono sb) .nil))⟩
/-- a list or a tuple -/
def seqD (d : D) : Option (List D) := match d with
  | .list ds => some ds
  | .tuple ds => some ds
  | _ => none
def mIt (f : M D) : M (List D) := fun e => (f e).bind fun d e => match seqD d with
  | some ds => .ok ds e
  | none => .stuck
def iSeq (K : PySem.W.Frag) (tl : TE) : TI := fun σ H R => tl σ H fun x H1 => ∃ a, x = .ref a ∧ (((∃ xs, SqL K H1 a xs) ∧ R (Itl K a) H1) ∨ ((∃ xs, SqT K H1 a xs) ∧ R (Itt K a) H1))
theorem pi_seq {tg l : Expr} {tl : TE} (hl : PE X l tl) : PI X tg l (iSeq X.K tl) := by
  refine ⟨fun pins s σ H R I h => ?_⟩
  refine thn (hl.run pins s σ H _ I h) fun v s1 ⟨x, H1, I1, r1, q1⟩ => ?_
  obtain ⟨a, e, ⟨⟨xs, hq⟩, q⟩ | ⟨⟨xs, hq⟩, q⟩⟩ := q1
  · subst e
    cases r1
    obtain ⟨its, rv, p, hz⟩ := I1.list hq
    refine wpAny_pyIter_list p.isList ?_
    refine ⟨s1.heap.objs.size, [s1.heap.objs.size], _, _, H1, rfl, I1.kept (t' := s1.toks) fun b o e => Heap.get?_push_of_some _ e, turn_list a _, ⟨_, Heap.get?_push_size _ rfl, rfl, rfl⟩, fun b hb => ?_, q⟩
    have e : b = s1.heap.objs.size := by simpa using hb
    subst e
    exact I1.fpOk (Nat.le_refl _) (I1.hok.fresh (Nat.le_refl _))
  · subst e
    cases r1
    obtain ⟨its, rv, p, hz⟩ := I1.tuple hq
    refine wpAny_pyIter_tuple (show s1.heap.IsTuple a its.toArray from p) ?_
    refine ⟨s1.heap.objs.size, [s1.heap.objs.size], _, _, H1, rfl, I1.kept (t' := s1.toks) fun b o e => Heap.get?_push_of_some _ e, turn_tuple a _, ⟨_, Heap.get?_push_size _ rfl, rfl, rfl⟩, fun b hb => ?_, q⟩
    have e : b = s1.heap.objs.size := by simpa using hb
    subst e
    exact I1.fpOk (Nat.le_refl _) (I1.hok.fresh (Nat.le_refl _))
theorem si_seq {tl : TE} {f : M D} (h : SD K ax tl f) : SIt K ax (iSeq K tl) (mIt f) := fun W B H σ env R si g =>
  h W B H σ env _ si (Good.bind g fun d e v B1 H1 s1 si1 r1 g1 => by
    cases r1 with
    | lst hq z rs => exact ⟨_, rfl, .inl ⟨⟨_, SqL.of (si1.same _ _ hq)⟩, g1 _ B1 H1 (fun _ _ e => e) si1 (yields_list (SqL.of hq) rs)⟩⟩
    | tup hq z rs => exact ⟨_, rfl, .inr ⟨⟨_, Same.sqT si1.same hq⟩, g1 _ B1 H1 (fun _ _ e => e) si1 (yields_tup hq rs)⟩⟩
    | _ => exact g1.elim)
theorem mi_seq {tg l : Expr} {f : M D} (h : MD ax X l f) : MI ax X tg l (mIt f) := let ⟨_, p, s⟩ := h; ⟨_, pi_seq p, si_seq s⟩
def inR (j : Int) : Bool := decide (-(2 ^ 62) ≤ j) && decide (j < 2 ^ 62)
theorem inR.of {j : Int} (h : inR j = true) : -(2 ^ 62) ≤ j ∧ j < 2 ^ 62 := by
  unfold inR at h
  rw [Bool.and_eq_true] at h
  exact ⟨of_decide_eq_true h.1, of_decide_eq_true h.2⟩
@[irreducible] def rg1 : List D → Option (List D)
  | [.int j] => if inR j = true then some (rng 0 j.toNat) else none
  | _ => none
@[irreducible] def rg2 : List D → Option (List D)
  | [.int i, .int j] => if (inR i && inR j) = true then some (rng i (j - i).toNat) else none
  | _ => none
def mItO (g : List D → Option (List D)) (f : M (List D)) : M (List D) := fun e => (f e).bind fun ds e => match g ds with
  | some ds => .ok ds e
  | none => .stuck
theorem RpAll.one {vs : List V} {d : D} (r : RpAll K B vs [d]) : ∃ v, vs = [v] ∧ Rp K B v d := by
  cases r with
  | cons h r => cases r; exact ⟨_, rfl, h⟩
theorem RpAll.two {vs : List V} {d e : D} (r : RpAll K B vs [d, e]) : ∃ v u, vs = [v, u] ∧ Rp K B v d ∧ Rp K B u e := by
  cases r with
  | cons h r => obtain ⟨u, rfl, h'⟩ := r.one; exact ⟨_, u, rfl, h, h'⟩
theorem RpAll.three {vs : List V} {d e f : D} (r : RpAll K B vs [d, e, f]) : ∃ v u w, vs = [v, u, w] ∧ Rp K B v d ∧ Rp K B u e ∧ Rp K B w f := by
  cases r with
  | cons h r => obtain ⟨u, w, rfl, h', h''⟩ := r.two; exact ⟨_, u, w, rfl, h, h', h''⟩
theorem si_rng1 {ta : TA} {f : M (List D)} (h : SA K ax ta f) : SIt K ax (iRng1 ta) (mItO rg1 f) := fun W B H σ env R si g =>
  h W B H σ env _ si (Good.bind g fun ds e vs B1 H1 s1 si1 r1 g1 => by
    cases q : rg1 ds with
    | none => rw [q] at g1; exact g1.elim
    | some ys =>
      rw [q] at g1
      unfold rg1 at q
      split at q
      · rename_i j
        split at q
        · rename_i hj
          cases q
          obtain ⟨v, rfl, rv⟩ := r1.one
          cases rv
          exact ⟨j, rfl, (inR.of hj).1, (inR.of hj).2, g1 _ B1 H1 (fun _ _ e => e) si1 yields_rng⟩
        · cases q
      · cases q)
theorem si_rng2 {ta : TA} {f : M (List D)} (h : SA K ax ta f) : SIt K ax (iRng2 ta) (mItO rg2 f) := fun W B H σ env R si g =>
  h W B H σ env _ si (Good.bind g fun ds e vs B1 H1 s1 si1 r1 g1 => by
    cases q : rg2 ds with
    | none => rw [q] at g1; exact g1.elim
    | some ys =>
      rw [q] at g1
      unfold rg2 at q
      split at q
      · rename_i i j
        split at q
        · rename_i hj
          cases q
          obtain ⟨v, u, rfl, rv, ru⟩ := r1.two
          cases rv
          cases ru
          rw [Bool.and_eq_true] at hj
          exact ⟨i, j, rfl, ⟨(inR.of hj.1).1, (inR.of hj.1).2, (inR.of hj.2).1, (inR.of hj.2).2⟩, g1 _ B1 H1 (fun _ _ e => e) si1 yields_rng⟩
        · cases q
      · cases q)
/-! ### for -/
def forgetL (fs : List Nat) (e : Env') : Env' := fs.foldl (fun e i => e.set i .un) e
def forE (t : D → Env' → Option Env') (body : M Ctl) (fs : List Nat) : List D → M Ctl
  | [], e => .ok .next e
  | x :: xs, e => match t x e with
    | none => .stuck
    | some e1 => match body e1 with
      | .ok .next e2 => forE t body fs xs (forgetL fs e2)
      | .ok .cnt e2 => forE t body fs xs (forgetL fs e2)
      | .ok .brk e2 => .ok .next (forgetL fs e2)
      | .ok (.ret r) e2 => .ok (.ret r) e2
      | .err k d e2 => .err k d e2
      | .stuck => .stuck
def mFor (it : M (List D)) (t : D → Env' → Option Env') (body : M Ctl) (fs : List Nat) : M Ctl := fun e => (it e).bind fun ds e => forE t body fs ds e
theorem ss_for {wi : TI} {g : TG} {tb : TS} {it : M (List D)} {t : D → Env' → Option Env'} {body : M Ctl} (fs : List Nat) (hi : SIt K ax wi it) (hg : SG K io g t) (hb : SS K ax io tb body) : SS K ax io (tFor wi g tb) (mFor it t body fs) := fun W B H σ env E hio si gd =>
  hi W B H σ env _ si (GoodS.bind gd fun ds e J B1 H1 s1 si1 r1 g1 => by
    refine ⟨fun i m σ H => m = ds.length - i ∧ i ≤ ds.length ∧ ∃ B e, Same B1 B ∧ SI K W B H σ e ∧ GoodS K ax W B E (forE t body fs (ds.drop i) e), ⟨ds.length, rfl, Nat.zero_le _, B1, e, fun _ _ e => e, si1, g1⟩, fun i m σ H w => ?_⟩
    obtain ⟨rfl, hil, B2, e2, s2, si2, g2⟩ := w
    by_cases hlt : i < ds.length
    · refine .inr ?_
      obtain ⟨yg, ys⟩ := r1 B2 H i s2 si2.same
      obtain ⟨jg, jy⟩ := yg ds[i] (List.getElem?_eq_getElem hlt)
      rw [List.drop_eq_getElem_cons hlt] at g2
      refine ⟨jg, fun σ' H' => ∃ B e, Same B1 B ∧ SI K W B H' σ' e ∧ GoodS K ax W B E (forE t body fs (ds.drop (i + 1)) e), fun σ' H' n => ⟨ds.length - (i + 1), by omega, rfl, hlt, n⟩, fun x H' y => ?_⟩
      obtain ⟨B3, gr, rx⟩ := jy x H' y
      have si3 := si2.more gr
      unfold forE at g2
      cases q : t ds[i] e2 with
      | none => rw [q] at g2; exact g2.elim
      | some e3 =>
        rw [q] at g2
        refine hg W B3 H' σ e2 e3 x ds[i] _ hio si3 rx q fun σ4 si4 => hb W B3 H' σ4 e3 _ hio si4 ?_
        dsimp only at g2
        have s3 : Same B1 B3 := s2.trans gr.b
        cases qb : body e3 with
        | stuck => rw [qb] at g2; exact g2.elim
        | err k d e5 => rw [qb] at g2; exact GoodS.up gr.b g2
        | ok c e5 =>
          rw [qb] at g2
          cases c with
          | next => exact fun σ' B5 H5 s5 si5 => ⟨B5, _, s3.trans s5, si5.forgets fs, GoodS.up (gr.b.trans s5) g2⟩
          | cnt => exact fun σ' B5 H5 s5 si5 => ⟨B5, _, s3.trans s5, si5.forgets fs, GoodS.up (gr.b.trans s5) g2⟩
          | brk => exact fun σ' B5 H5 s5 si5 => g2 σ' B5 H5 (gr.b.trans s5) (si5.forgets fs)
          | ret r => exact fun σ' v B5 H5 s5 si5 => g2 σ' v B5 H5 (gr.b.trans s5) si5
    · have hi : i = ds.length := by omega
      obtain ⟨yg, ys⟩ := r1 B2 H i s2 si2.same
      refine .inl ⟨ys (by omega), ?_⟩
      rw [List.drop_eq_nil_of_le (by omega)] at g2
      exact g2 σ B2 H (fun _ _ e => e) si2)
/-! ### while -/
def whileE (c : M Bool) (body : M Ctl) (fs : List Nat) : Nat → M Ctl
  | 0, _ => .stuck
  | n + 1, e => (c e).bind fun b e => if b = true then (match body e with
      | .ok .next e2 => whileE c body fs n (forgetL fs e2)
      | .ok .cnt e2 => whileE c body fs n (forgetL fs e2)
      | .ok .brk e2 => .ok .next (forgetL fs e2)
      | .ok (.ret r) e2 => .ok (.ret r) e2
      | .err k d e2 => .err k d e2
      | .stuck => .stuck) else .ok .next e
def mWhile (n : Nat) (c : M Bool) (body : M Ctl) (fs : List Nat) : M Ctl := whileE c body fs n
theorem ss_while {tc : TT} {tb : TS} {c : M Bool} {body : M Ctl} (n : Nat) (fs : List Nat) (hc : ST K ax tc c) (hb : SS K ax io tb body) : SS K ax io (tWhile tc tb) (mWhile n c body fs) := fun W B H σ env E hio si gd => by
  refine ⟨fun m σ H => ∃ B1 e, Same B B1 ∧ SI K W B1 H σ e ∧ GoodS K ax W B1 E (whileE c body fs m e), ⟨n, B, env, fun _ _ e => e, si, gd⟩, fun m σ H w => ?_⟩
  obtain ⟨B1, e, s1, si1, g1⟩ := w
  cases m with
  | zero => exact g1.elim
  | succ m =>
    unfold whileE at g1
    refine hc W B1 H σ e _ si1 (GoodS.bind g1 fun x e2 b B2 H2 s2 si2 r2 g2 => ?_)
    subst r2
    cases b with
    | false =>
      rw [if_neg Bool.false_ne_true] at g2 ⊢
      exact g2 σ B2 H2 (fun _ _ e => e) si2
    | true =>
      rw [if_pos rfl] at g2 ⊢
      refine ⟨fun σ' H' => ∃ B1 e, Same B B1 ∧ SI K W B1 H' σ' e ∧ GoodS K ax W B1 E (whileE c body fs m e), fun σ' H' q => ⟨m, Nat.lt_succ_self m, q⟩, hb W B2 H2 σ e2 _ hio si2 ?_⟩
      cases qb : body e2 with
      | stuck => rw [qb] at g2; exact g2.elim
      | err k d e5 => rw [qb] at g2; exact g2
      | ok c e5 =>
        rw [qb] at g2
        cases c with
        | next => exact fun σ' B5 H5 s5 si5 => ⟨B5, _, (s1.trans s2).trans s5, si5.forgets fs, GoodS.up s5 g2⟩
        | cnt => exact fun σ' B5 H5 s5 si5 => ⟨B5, _, (s1.trans s2).trans s5, si5.forgets fs, GoodS.up s5 g2⟩
        | brk => exact fun σ' B5 H5 s5 si5 => g2 σ' B5 H5 s5 (si5.forgets fs)
        | ret r => exact g2
end
end Lp

namespace Lp
open PySem PySem.Spec L2
set_option autoImplicit false
section
variable {K : PySem.W.Frag} {ax : Ax} {W : Wd} {B B' H H' : Hp} {σ : L2.St} {env : Env'} {io : List Nat} {X : Cx} {v : V} {r : Sl} {d : D}
/-! ### results that may be the frame's own -/
def GoodO (K : PySem.W.Frag) (ax : Ax) (W : Wd) (σ : L2.St) (B : Hp) (Q : VK) : Out Sl → Prop
  | .stuck => False
  | .err k d e => Errs K ax W σ B k d e
  | .ok r e => ∀ v B' H', Same B B' → SIV K W B' H' σ e v r → Q v H'
theorem GoodO.up {Q : VK} {o : Out Sl} (s : Same B B') (h : GoodO K ax W σ B Q o) : GoodO K ax W σ B' Q o := by
  cases o with
  | stuck => exact h
  | err k d e => exact Errs.up s h
  | ok a e => exact fun v B1 H1 s1 => h v B1 H1 (s.trans s1)
def SO (K : PySem.W.Frag) (ax : Ax) (te : TE) (f : M Sl) : Prop := ∀ (W : Wd) (B H : Hp) (σ : L2.St) (env : Env') (Q : VK), SI K W B H σ env → GoodO K ax W σ B Q (f env) → te σ H Q
def MO (ax : Ax) (X : Cx) (e : Expr) (f : M Sl) : Prop := ∃ te, PE X e te ∧ SO X.K ax te f
/-- an expression ahead -/
theorem GoodO.bind {α β : Type} {R : Hp → β → α → Prop} {Q : β → Hp → Prop} {Q2 : VK} {o : Out α} {f : α → Env' → Out Sl} (h : GoodO K ax W σ B Q2 (o.bind f))
    (k : ∀ (a : α) (e : Env') (b : β) (B' H' : Hp), Same B B' → SI K W B' H' σ e → R B' b a → GoodO K ax W σ B' Q2 (f a e) → Q b H') : Good R K ax W σ B Q o := by
  cases o with
  | stuck => exact h.elim
  | err n d e => exact h
  | ok a e => exact fun b B1 H1 s1 si r => k a e b B1 H1 s1 si r (GoodO.up s1 h)
theorem SIV.freeze {ds : List D} (h : SIV K W B H σ env v (.own ds)) : ∃ B', Same B B' ∧ SI K W B' H σ env ∧ Rp K B' v (.list ds) := by
  obtain ⟨g, F, Fv, s, ⟨p, vs, rfl, hpF, o, hp, rs, z⟩, hm, hd⟩ := h
  have sb : Same B (upd B p (.lst vs)) := fun b u e => by rw [upd_ne (ne_of_none e o.nb)]; exact e
  refine ⟨_, sb, ⟨⟨g.b.trans sb, fun b u e => ?_, fun a h1 h2 h3 => ?_, g.keep, g.st⟩, F, s.grow sb (fun i a ha hb => ?_) fun _ _ _ _ h => h⟩, .lst upd_same z (rs.mono sb)⟩
  · by_cases q : b = p
    · subst q; rw [upd_same] at e; cases e; exact hp
    · rw [upd_ne q] at e; exact g.bh _ _ e
  · have : a ≠ p := fun q => by
      subst q
      rcases o.fr with z | z
      · rw [z] at h2; exact h2
      · exact h3 z
    rw [upd_ne this]; exact g.fr a h1 h2 h3
  · have : a ≠ p := fun q => hd i a ha (q ▸ hpF)
    rw [upd_ne this]; exact hb
def slD : Sl → Option D
  | .dat d => some d
  | .own ds => some (.list ds)
  | _ => none
def mFz (f : M Sl) : M D := fun e => (f e).bind fun r e => match slD r with
  | some d => .ok d e
  | none => .stuck
theorem sd_fz {te : TE} {f : M Sl} (h : SO K ax te f) : SD K ax te (mFz f) := fun W B H σ env Q si gd => by
  refine h W B H σ env Q si ?_
  have gd' : Good (RD K) K ax W σ B Q ((f env).bind fun r e => match slD r with | some d => .ok d e | none => .stuck) := gd
  cases q : f env with
  | stuck => rw [q] at gd'; exact gd'
  | err k d e => rw [q] at gd'; exact gd'
  | ok r e =>
    rw [q] at gd'
    intro v B1 H1 s1 siv
    cases r with
    | dat d => exact gd' v B1 H1 s1 siv.si siv.rp
    | own ds =>
      obtain ⟨B2, s2, si2, r2⟩ := siv.freeze
      exact gd' v B2 H1 (s1.trans s2) si2 r2
    | _ => exact gd'.elim
theorem md_fz {e : Expr} {f : M Sl} (h : MO ax X e f) : MD ax X e (mFz f) := let ⟨_, p, s⟩ := h; ⟨_, p, sd_fz s⟩
def mAsgO (i : Nat) (f : M Sl) : M Ctl := fun e => match f e with
  | .ok r e => .ok .next (e.set i r)
  | .err k d e => .err k d e
  | .stuck => .stuck
theorem ss_asgO {te : TE} {f : M Sl} {i : Nat} (h : SO K ax te f) (hi : i ∉ io) : SS K ax io (tAsg te (gName i)) (mAsgO i f) := fun W B H σ env E hio si gd => by
  refine h W B H σ env _ si ?_
  unfold mAsgO at gd
  cases q : f env with
  | stuck => rw [q] at gd; exact gd
  | err k d e => rw [q] at gd; exact gd σ
  | ok r e =>
    rw [q] at gd
    exact fun v B1 H1 s1 siv => gd _ B1 H1 s1 (siv.put (hio ▸ hi))
def mRetO (f : M Sl) : M Ctl := fun e => match f e with
  | .ok r e => .ok (.ret r) e
  | .err k d e => .err k d e
  | .stuck => .stuck
theorem ss_retO {te : TE} {f : M Sl} (h : SO K ax te f) : SS K ax io (tRet te) (mRetO f) := fun W B H σ env E hio si gd => by
  refine h W B H σ env _ si ?_
  unfold mRetO at gd
  cases q : f env with
  | stuck => rw [q] at gd; exact gd
  | err k d e => rw [q] at gd; exact gd σ
  | ok r e =>
    rw [q] at gd
    exact fun v B1 H1 s1 siv => gd σ v B1 H1 s1 siv
/-! ### a new base: what the frame owns is lent -/
theorem Ownd.out {W2 : Wd} {p : Addr} (g : Grow W.B0 W.H0 W.ft B H) (h0 : W2.H0 = H) (hf : ∀ a ∈ W2.ft, W.H0 a = none ∨ a ∈ W.ft) (o : Ownd W2 B' H' p) : Ownd W B' H' p := by
  refine ⟨o.nb, ?_⟩
  rcases o.fr with e | e
  · refine .inl ?_
    rw [h0] at e
    cases q : W.H0 p with
    | none => rfl
    | some u => exact absurd e (g.st p (by rw [q]; simp))
  · exact hf p e
theorem SlV.out {W2 : Wd} {F : List Addr} (c : ∀ p, Ownd W2 B H p → Ownd W B H p) (s : SlV K W2 B H F v r) : SlV K W B H F v r := by
  cases r with
  | un => trivial
  | dat d => exact s
  | own ds => obtain ⟨p, vs, e, m, o, hp, rs, z⟩ := s; exact ⟨p, vs, e, m, c p o, hp, rs, z⟩
  | deal cs b => obtain ⟨p, q, e, m, n, ne, o, u, hp, hq⟩ := s; exact ⟨p, q, e, m, n, ne, c p o, c q u, hp, hq⟩
  | scr ns => exact s
  | dcT kvs => obtain ⟨p, L, e, m, o, hp, rs⟩ := s; exact ⟨p, L, e, m, c p o, hp, rs⟩
  | dcI kvs => obtain ⟨p, L, e, m, o, hp, rs⟩ := s; exact ⟨p, L, e, m, c p o, hp, rs⟩
theorem SlAt.out {W2 : Wd} {F : List Addr} {ov : Option (Option V)} (c : ∀ p, Ownd W2 B H p → Ownd W B H p) (s : SlAt K W2 B H F ov r) : SlAt K W B H F ov r := by
  rcases s with e | ⟨v, e, s⟩
  · exact .inl e
  · exact .inr ⟨v, e, s.out c⟩

/-! ### calls -/
def outs (io : List Nat) (n : Nat) (a e : Env') : Env' := (List.range n).map fun i => if i ∈ io then e.getD i .un else match a[i]? with
  | some (.dat d) => .dat d
  | _ => .un
def GoodF (K : PySem.W.Frag) (ec : Nat → Value) (W : Wd) (vs : List V) (B : Hp) (n : Nat) (a : Env') (Q : VK) (E : XK) : Out Sl → Prop
  | .stuck => False
  | .err k d e => ∀ v dx B' H', Same B B' → SI K W B' H' (vs.map some) (outs W.io n a e) → Rp K B' v d → H' dx = some (.xd [("at", v)]) → E (ec k) (some dx) H'
  | .ok r e => ∀ v B' H', Same B B' → SIV K W B' H' (vs.map some) (outs W.io n a e) v r → Q v H'
/-- a def's promise by its mirror -/
def spM (K : PySem.W.Frag) (ec : Nat → Value) (n : Nat) (io : List Nat) (g : Env' → Out Sl) : Sp := fun vs H Q E => vs.length = n ∧
  ∃ (W : Wd) (a : Env'), W.H0 = H ∧ W.io = io ∧ W.σ0 = vs.map some ∧ SI K W W.B0 H (vs.map some) a ∧ GoodF K ec W vs W.B0 n a Q E (g a)
/-- a call with data alone -/
def mCall (g : Env' → Out Sl) (fa : M (List D)) : M Sl := fun e => (fa e).bind fun ds e => match g (ds.map .dat) with
  | .stuck => .stuck
  | .err k d _ => .err k d e
  | .ok r _ => .ok r e
theorem slots_dat {W' : Wd} {vs : List V} {ds : List D} (hio : W'.io = []) (r : RpAll K B vs ds) : Slots K W' B H (vs.map some) (ds.map .dat) (fun _ => []) where
  len := by rw [List.length_map, List.length_map, r.length]
  pin := fun i hi => by rw [hio] at hi; simp at hi
  at_ := fun i s e => by
    rw [List.getElem?_map] at e
    cases q : ds[i]? with
    | none => rw [q] at e; cases e
    | some d =>
      rw [q] at e
      cases e
      obtain ⟨v, ev, rv⟩ := r.get' q
      exact .inr ⟨v, by rw [List.getElem?_map, ev]; rfl, rv⟩
  there := fun i a ha => by simp at ha
  dis := fun i j a ha => by simp at ha
theorem so_call {ta : TA} {fa : M (List D)} {n : Nat} {g : Env' → Out Sl} (hn : ∀ e, e.length ≠ n → g e = .stuck) (h : SA K ax ta fa) : SO K ax (fun σ H Q => ta σ H fun vs H1 => spM K ax.ec n [] g vs H1 Q (fun cls d H' => ax.Wx cls d σ H')) (mCall g fa) := fun W B H σ env Q si gd => by
  refine h W B H σ env _ si (GoodO.bind gd fun ds e vs B1 H1 s1 si1 r1 g1 => ?_)
  have hlen : vs.length = n := by
    rw [r1.length]
    refine Classical.byContradiction fun q => ?_
    rw [hn (ds.map .dat) (by rw [List.length_map]; exact q)] at g1
    exact g1
  let W' : Wd := ⟨B1, H1, [], [], vs.map some⟩
  have c : ∀ {B' H' : Hp} (p : Addr), Ownd W' B' H' p → Ownd W B' H' p := fun p o => Ownd.out (W2 := W') si1.1 rfl (by simp [W']) o
  refine ⟨hlen, W', ds.map .dat, rfl, rfl, rfl, ⟨Grow.refl si1.same [], _, slots_dat rfl r1⟩, ?_⟩
  cases q : g (ds.map .dat) with
  | stuck => rw [q] at g1; exact g1
  | err k d e' =>
    rw [q] at g1
    exact fun v dx B' H' s' si' rv hx => g1 v dx B' H' s' (si1.more si'.1) rv hx
  | ok r e' =>
    rw [q] at g1
    intro v B' H' s' siv
    obtain ⟨gr, F, Fv, sl, sv, hm, hd⟩ := siv
    have gr' : Grow B1 H1 [] B' H' := gr
    obtain ⟨gw0, F0, sl0⟩ := si1
    refine g1 v B' H' s' ⟨gw0.trans gr' (by simp), F0, Fv, sl0.grow gr'.b (fun i a ha hb => gr'.fr a hb (sl0.there i a ha).1 (by simp)) (fun i a ha o e => gr'.keep a o (by simp) e), sv.out c, fun a ha => ⟨(hm a ha).1, c a (hm a ha).2⟩, fun i a ha hav => ?_⟩
    have o := (hm a hav).2
    rcases o.fr with z | z
    · have z' : H1 a = none := z
      have m := (sl0.there i a ha).1
      rw [z'] at m
      exact m
    · simp [W'] at z
/-- a call whose first argument is a slot that the callee may turn -/
def mCallIO (i : Nat) (g : Env' → Out Sl) (fa : M (List D)) : M Sl := fun e0 => match e0[i]? with
  | none => .stuck
  | some .un => .stuck
  | some _ => (fa e0).bind fun ds e => match e[i]? with
    | none => .stuck
    | some .un => .stuck
    | some s => match g (s :: ds.map .dat) with
      | .stuck => .stuck
      | .err k d e' => .err k d (e.set i (e'.getD 0 .un))
      | .ok r e' => .ok r (e.set i (e'.getD 0 .un))
theorem outs_io {n : Nat} {a e : Env'} (h : 0 < n) : (outs [0] n a e)[0]? = some (e.getD 0 .un) := by
  unfold outs
  rw [List.getElem?_map, List.getElem?_range h]
  simp
theorem SI.at_ (h : SI K W B H σ env) {i : Nat} {s : Sl} (e : env[i]? = some s) (hs : s ≠ .un) : ∃ v, σ[i]? = some (some v) := by
  obtain ⟨g, F, sl⟩ := h
  rcases sl.at_ i s e with q | ⟨v, ev, _⟩
  · exact absurd q hs
  · exact ⟨v, ev⟩
theorem so_callIO {ta : TA} {fa : M (List D)} {n i : Nat} {g : Env' → Out Sl} (hn : ∀ e, e.length ≠ n → g e = .stuck) (h0 : 0 < n) (h : SA K ax ta fa) :
    SO K ax (fun σ H Q => tCons (tVar i) ta σ H fun vs H1 => spM K ax.ec n [0] g vs H1 Q (fun cls d H' => ax.Wx cls d σ H')) (mCallIO i g fa) := fun W B H σ env Q si gd => by
  unfold mCallIO at gd
  cases q0 : env[i]? with
  | none => rw [q0] at gd; exact gd.elim
  | some s0 =>
  rw [q0] at gd
  have hs0 : s0 ≠ .un := fun z => by subst z; exact gd.elim
  obtain ⟨v0, ev0⟩ := si.at_ q0 hs0
  have gd' : GoodO K ax W σ B Q ((fa env).bind fun ds e => match e[i]? with
    | none => .stuck
    | some .un => .stuck
    | some s => match g (s :: ds.map .dat) with
      | .stuck => .stuck
      | .err k d e' => .err k d (e.set i (e'.getD 0 .un))
      | .ok r e' => .ok r (e.set i (e'.getD 0 .un))) := by
    cases s0 with
    | un => exact absurd rfl hs0
    | _ => exact gd
  refine ⟨v0, ev0, h W B H σ env _ si (GoodO.bind gd' fun ds e vs B1 H1 s1 si1 r1 g1 => ?_)⟩
  show spM K ax.ec n [0] g (v0 :: vs) H1 Q _
  cases q1 : e[i]? with
  | none => rw [q1] at g1; exact g1.elim
  | some s =>
  rw [q1] at g1
  have hs : s ≠ .un := fun z => by subst z; exact g1.elim
  have g2 : GoodO K ax W σ B1 Q (match g (s :: ds.map .dat) with
      | .stuck => .stuck
      | .err k d e' => .err k d (e.set i (e'.getD 0 .un))
      | .ok r e' => .ok r (e.set i (e'.getD 0 .un))) := by
    cases s with
    | un => exact absurd rfl hs
    | _ => exact g1
  have hlen : (v0 :: vs).length = n := by
    rw [List.length_cons, r1.length]
    refine Classical.byContradiction fun q => ?_
    rw [hn (s :: ds.map .dat) (by rw [List.length_cons, List.length_map]; exact q)] at g2
    exact g2
  obtain ⟨gw0, F0, sl0⟩ := si1
  have hat : ∃ v, σ[i]? = some (some v) ∧ SlV K W B1 H1 (F0 i) v s := by
    rcases sl0.at_ i s q1 with z | z
    · exact absurd z hs
    · exact z
  obtain ⟨v1, ev1, sv1⟩ := hat
  rw [ev0] at ev1
  cases ev1
  let W' : Wd := ⟨B1, H1, F0 i, [0], (v0 :: vs).map some⟩
  have hft : ∀ a ∈ F0 i, W.H0 a = none ∨ a ∈ W.ft := fun a ha => (sl0.there i a ha).2.fr
  have c : ∀ {B' H' : Hp} (p : Addr), Ownd W' B' H' p → Ownd W B' H' p := fun p o => Ownd.out (W2 := W') gw0 rfl hft o
  have hi : i < e.length := (List.getElem?_eq_some_iff.mp q1).1
  have sd := slots_dat (K := K) (B := B1) (H := H1) (W' := ⟨B1, H1, F0 i, [], vs.map some⟩) rfl r1
  have sla : Slots K W' B1 H1 ((v0 :: vs).map some) (s :: ds.map .dat) (fun j => if j = 0 then F0 i else []) := by
    refine ⟨by rw [List.length_map, List.length_cons, List.length_cons, List.length_map, r1.length], fun j hj => rfl, fun j x ex => ?_, fun j a ha => ?_, fun j k a h1 h2 => ?_⟩
    · cases j with
      | zero =>
        cases ex
        refine .inr ⟨v0, rfl, ?_⟩
        rw [if_pos rfl]
        cases s with
        | un => trivial
        | dat d => exact sv1
        | own es => obtain ⟨p, us, e, m, o, hp, rs, z⟩ := sv1; exact ⟨p, us, e, m, ⟨o.nb, .inr m⟩, hp, rs, z⟩
        | deal cs b => obtain ⟨p, q, e, m, n, ne, o, u, hp, hq⟩ := sv1; exact ⟨p, q, e, m, n, ne, ⟨o.nb, .inr m⟩, ⟨u.nb, .inr n⟩, hp, hq⟩
        | scr ns => exact sv1
        | dcT kvs => obtain ⟨p, L, e, m, o, hp, rs⟩ := sv1; exact ⟨p, L, e, m, ⟨o.nb, .inr m⟩, hp, rs⟩
        | dcI kvs => obtain ⟨p, L, e, m, o, hp, rs⟩ := sv1; exact ⟨p, L, e, m, ⟨o.nb, .inr m⟩, hp, rs⟩
      | succ j =>
        rw [List.getElem?_cons_succ] at ex
        rcases sd.at_ j x ex with z | ⟨v, ev, z⟩
        · exact .inl z
        · refine .inr ⟨v, by rw [List.map_cons, List.getElem?_cons_succ]; exact ev, ?_⟩
          rw [if_neg (Nat.succ_ne_zero j)]
          rw [List.getElem?_map] at ex
          cases q : ds[j]? with
          | none => rw [q] at ex; cases ex
          | some d => rw [q] at ex; cases ex; exact z
    · by_cases z : j = 0
      · rw [if_pos z] at ha; exact ⟨(sl0.there i a ha).1, (sl0.there i a ha).2.nb, .inr ha⟩
      · rw [if_neg z] at ha; simp at ha
    · by_cases z : j = 0 <;> by_cases z2 : k = 0
      · rw [z, z2]
      · rw [if_neg z2] at h2; simp at h2
      · rw [if_neg z] at h1; simp at h1
      · rw [if_neg z] at h1; simp at h1
  -- behind the call
  have back : ∀ {B' H' : Hp} {e' : Env'}, SI K W' B' H' ((v0 :: vs).map some) (outs [0] n (s :: ds.map .dat) e') → ∀ F1, Slots K W' B' H' ((v0 :: vs).map some) (outs [0] n (s :: ds.map .dat) e') F1 →
      Grow W.B0 W.H0 W.ft B' H' ∧ Slots K W B' H' σ (e.set i (e'.getD 0 .un)) (fun j => if j = i then F1 0 else F0 j) := by
    intro B' H' e' si' F1 sl1
    have gr : Grow B1 H1 (F0 i) B' H' := si'.1
    refine ⟨gw0.trans gr hft, ?_⟩
    have so : SlAt K W B' H' (F1 0) (some (some v0)) (e'.getD 0 .un) := by
      have z := (sl1.at_ 0 _ (outs_io h0)).out (W := W) c
      exact z
    have dj : ∀ j a, j ≠ i → a ∈ F0 j → a ∉ F0 i := fun j a hj h1 h2 => hj (sl0.dis j i a h1 h2)
    refine ⟨by rw [List.length_set]; exact sl0.len, sl0.pin, fun j x ex => ?_, fun j a ha => ?_, fun j k a h1 h2 => ?_⟩
    · by_cases z : j = i
      · subst z
        rw [List.getElem?_set_self hi] at ex
        cases ex
        rw [if_pos rfl, ev0]
        exact so
      · rw [List.getElem?_set_ne (Ne.symm z)] at ex
        rw [if_neg z]
        exact (sl0.at_ j x ex).grow gr.b (fun a ha hb => gr.fr a hb (sl0.there j a ha).1 (dj j a z ha)) fun a ha o e => gr.keep a o (dj j a z ha) e
    · by_cases z : j = i
      · rw [if_pos z] at ha; exact ⟨(sl1.there 0 a ha).1, c a (sl1.there 0 a ha).2⟩
      · rw [if_neg z] at ha
        obtain ⟨m, o⟩ := sl0.there j a ha
        refine ⟨?_, gr.fr a o.nb m (dj j a z ha), o.fr⟩
        cases q : H1 a with
        | none => rw [q] at m; exact m.elim
        | some u => rw [gr.keep a u (dj j a z ha) q, ← q]; exact m
    · have no : ∀ j a, j ≠ i → a ∈ F0 j → a ∉ F1 0 := fun j a hj h1 h2 => by
        rcases (sl1.there 0 a h2).2.fr with z | z
        · have m := (sl0.there j a h1).1
          have z' : H1 a = none := z
          rw [z'] at m; exact m
        · exact dj j a hj h1 z
      by_cases z : j = i <;> by_cases z2 : k = i
      · rw [z, z2]
      · rw [if_pos z] at h1; rw [if_neg z2] at h2; exact absurd h1 (no k a z2 h2)
      · rw [if_neg z] at h1; rw [if_pos z2] at h2; exact absurd h2 (no j a z h1)
      · rw [if_neg z] at h1; rw [if_neg z2] at h2; exact sl0.dis j k a h1 h2
  refine ⟨hlen, W', s :: ds.map .dat, rfl, rfl, rfl, ⟨Grow.refl gw0.bh _, _, sla⟩, ?_⟩
  cases q : g (s :: ds.map .dat) with
  | stuck => rw [q] at g2; exact g2
  | err k d e' =>
    rw [q] at g2
    intro v dx B' H' s' si' rv hx
    obtain ⟨g5, F1, sl1⟩ := id si'
    obtain ⟨gr, sl2⟩ := back si' F1 sl1
    exact g2 v dx B' H' s' ⟨gr, _, sl2⟩ rv hx
  | ok r e' =>
    rw [q] at g2
    intro v B' H' s' siv
    obtain ⟨g5, F1, Fv, sl1, sv, hm, hd⟩ := id siv
    obtain ⟨gr, sl2⟩ := back siv.si F1 sl1
    refine g2 v B' H' s' ⟨gr, _, Fv, sl2, sv.out c, fun a ha => ⟨(hm a ha).1, c a (hm a ha).2⟩, fun j a ha hav => ?_⟩
    by_cases z : j = i
    · rw [if_pos z] at ha; exact hd 0 a ha hav
    · rw [if_neg z] at ha
      rcases (hm a hav).2.fr with y | y
      · have m := (sl0.there j a ha).1
        have y' : H1 a = none := y
        rw [y'] at m; exact m
      · exact z (sl0.dis j i a ha y)
end
end Lp

namespace Lp
open PySem PySem.Spec L2
set_option autoImplicit false
section
variable {K : PySem.W.Frag} {ax : Ax} {W : Wd} {B B' H H' : Hp} {σ : L2.St} {env : Env'} {io : List Nat} {X : Cx} {v : V} {r : Sl} {d : D}
/-! ### a def's body -/
def gOf (L n : Nat) (m : M Ctl) : Env' → Out Sl := fun a => if a.length = n then (match m (a ++ List.replicate (L - n) .un) with
  | .ok (.ret r) e => .ok r e
  | .ok .next e => .ok (.dat .none) e
  | .err k d e => .err k d e
  | _ => .stuck) else .stuck
theorem gOf_len {L n : Nat} {m : M Ctl} (e : Env') (h : e.length ≠ n) : gOf L n m e = .stuck := by unfold gOf; rw [if_neg h]
theorem outs_get {io : List Nat} {n : Nat} {a e : Env'} {i : Nat} {s : Sl} (h : (outs io n a e)[i]? = some s) : i < n ∧ ((i ∈ io ∧ s = e.getD i .un) ∨ (i ∉ io ∧ (s = .un ∨ ∃ d, a[i]? = some (.dat d) ∧ s = .dat d))) := by
  unfold outs at h
  have hl := (List.getElem?_eq_some_iff.mp h).1
  rw [List.length_map, List.length_range] at hl
  rw [List.getElem?_map, List.getElem?_range hl] at h
  have h' := Option.some.inj h
  dsimp only at h'
  refine ⟨hl, ?_⟩
  by_cases q : i ∈ io
  · rw [if_pos q] at h'; exact .inl ⟨q, h'.symm⟩
  · rw [if_neg q] at h'
    refine .inr ⟨q, ?_⟩
    split at h'
    · rename_i d hd; exact .inr ⟨d, hd, h'.symm⟩
    · exact .inl h'.symm
theorem outs_len {io : List Nat} {n : Nat} {a e : Env'} : (outs io n a e).length = n := by unfold outs; rw [List.length_map, List.length_range]
theorem outs_slots {vs : List V} {a e : Env'} {n : Nat} {B0 H0 : Hp} {F0 F : Nat → List Addr} (h0 : Slots K W B0 H0 (vs.map some) a F0) (hn : vs.length = n) (hs : W.σ0 = vs.map some) (sb : Same B0 B) (h : Slots K W B H σ e F) :
    Slots K W B H (vs.map some) (outs W.io n a e) (fun i => if i ∈ W.io then F i else []) where
  len := by rw [outs_len, List.length_map]; exact hn
  pin := fun i hi => by rw [hs]
  at_ := fun i s es => by
    obtain ⟨hi, ⟨hio, rfl⟩ | ⟨hio, rfl | ⟨d, ha, rfl⟩⟩⟩ := outs_get es
    · rw [if_pos hio]
      cases q : e[i]? with
      | none => rw [List.getD_eq_getElem?_getD, q]; exact .inl rfl
      | some s =>
        rw [List.getD_eq_getElem?_getD, q]
        have z := h.at_ i s q
        rw [h.pin i hio, hs] at z
        exact z
    · exact .inl rfl
    · rcases h0.at_ i _ ha with q | ⟨v, ev, rv⟩
      · cases q
      · exact .inr ⟨v, ev, Rp.mono sb rv⟩
  there := fun i a ha => by
    by_cases q : i ∈ W.io
    · rw [if_pos q] at ha; exact h.there i a ha
    · rw [if_neg q] at ha; simp at ha
  dis := fun i j a h1 h2 => by
    by_cases q : i ∈ W.io <;> by_cases q2 : j ∈ W.io
    · rw [if_pos q] at h1; rw [if_pos q2] at h2; exact h.dis i j a h1 h2
    · rw [if_neg q2] at h2; simp at h2
    · rw [if_neg q] at h1; simp at h1
    · rw [if_neg q] at h1; simp at h1
theorem start_get {N : List Str} {vs : List V} {i : Nat} (h : i < vs.length) : (L2.start N vs)[i]? = (vs.map some)[i]? := by
  unfold L2.start
  rw [List.getElem?_append_left (by rw [List.length_map]; exact h)]
theorem start_slots {vs : List V} {a : Env'} {N : List Str} {n : Nat} {B0 H0 : Hp} {F0 : Nat → List Addr} (h0 : Slots K W B0 H0 (vs.map some) a F0) (hn : vs.length = n) (hN : n ≤ N.length) (hs : W.σ0 = vs.map some) (hio : ∀ i ∈ W.io, i < n) :
    Slots K W B0 H0 (L2.start N vs) (a ++ List.replicate (N.length - n) .un) F0 where
  len := by
    have := h0.len
    rw [List.length_map] at this
    unfold L2.start
    rw [List.length_append, List.length_append, List.length_map, List.length_replicate, List.length_replicate, this, ← hn, this]
  pin := fun i hi => by rw [start_get (by rw [hn]; exact hio i hi), hs]
  at_ := fun i s e => by
    have hl := h0.len
    rw [List.length_map] at hl
    by_cases q : i < a.length
    · rw [List.getElem?_append_left q] at e
      rw [start_get (by omega)]
      exact h0.at_ i s e
    · rw [List.getElem?_append_right (by omega)] at e
      have := List.getElem?_replicate (n := N.length - n) (a := Sl.un) (i := i - a.length)
      rw [this] at e
      split at e
      · exact .inl (Option.some.inj e).symm
      · cases e
  there := h0.there
  dis := h0.dis
/-- a def's promise where no repr is under way -/
structure FnG (P : Program) (w : World) (K : PySem.W.Frag) (mg : Str → Option Value) (base : Heap) (k : Nat) (f : Addr) (fd : FuncData) (ps : List Str) (sp : Sp) : Prop where
  len : ∀ vs H Q E, sp vs H Q E → vs.length = ps.length
  run : ∀ (A : Around) (outer : List Env) (s : Shared) (H : Hp) (args : Args) (us : List Value) (vs : List V) (Q : VK) (E : XK), A.guards = some [] → Room k A → Env0 P w K mg base A outer s H →
    BindsTo s fd args (ps.zip us) → Vals vs us → sp vs H Q E → codeAny (model P w) A (.call (.ref f) args) (CR (L2.CX P w) outer P w H s Q E) s
theorem FnG.mono {P : Program} {w : World} {mg : Str → Option Value} {base : Heap} {j k : Nat} {f : Addr} {fd : FuncData} {ps : List Str} {sp : Sp} (F : FnG P w K mg base j f fd ps sp) (h : j ≤ k) : FnG P w K mg base k f fd ps sp :=
  ⟨F.len, fun A outer s H args us vs Q E gd hr => F.run A outer s H args us vs Q E gd (hr.mono h)⟩
theorem fnG_of {P : Program} {w : World} {mg : Str → Option Value} {base : Heap} {x qual : Str} {st : Stmt} {f : Addr} {fd : FuncData} {N ps : List Str} {k : Nat} {sp : Sp} (F : Fun K x qual st f fd) (S : FnScope N ps (defScope st)) (len : ∀ vs H Q E, sp vs H Q E → vs.length = ps.length)
    (hbody : ∀ (cdv : Value) (A : Around) (outer : List Env) (s : Shared) (H : Hp) (vs : List V) (Q : VK) (E : XK), A.guards = some [] → Room k (A.deeper (PyProof.Rows.envOfC qual (defScope st) s.heap.objs.size f cdv)) → sp vs H Q E →
      ∃ t, PSs (cxOf (L2.CX P w) P w K mg base N qual (defScope st) f cdv A outer s H E) (defBody st) t ∧ t { nx := fun _ H' => Q .non H', rt := Q } (L2.start N vs) H) :
    FnG P w K mg base (k + 1) f fd ps sp := by
  obtain ⟨oc, od, kV, doc, pm, an, cdv, ct, osl, rfl, lk, hcd⟩ := F.ex
  refine ⟨len, fun A outer s H args us vs Q E gd hr e0 hb r hsp => ?_⟩
  have KX : K.In s.heap := e0.mod.kin.keeps fun b o q => (e0.bs b o q).1
  have lim : s.heap.NoLimit := e0.mod.nolimit.keeps fun b o q => (e0.bs b o q).1
  obtain ⟨t, hp, ht⟩ := hbody cdv A outer s H vs Q E gd (hr.deeper _) hsp
  refine Att.call_fn KX lim lk hcd (by have := hr.dp; omega) hb ?_ (fun s1 IC => ?_) S.co S.gen S.kind
  · rw [List.all_eq_true]
    intro y hy
    rcases S.par y.1 (List.of_mem_zip (a := y.1) (b := y.2) hy).1 with q | q
    · rw [q]; rfl
    · rw [q]; rfl
  · have I := inv_start (CX := L2.CX P w) (E := E) S hr.hd e0 (len _ _ _ _ hsp) r IC
    refine wpAny_mono (hp.run [] s1 (L2.start N vs) H _ I ht) (fun fl s' q => ?_) fun e s' q => q
    have close : ∀ {σ' : L2.St} {H' : Hp} {v : V} {u : Value}, Inv (cxOf (L2.CX P w) P w K mg base N qual (defScope st) f cdv A outer s H E) [] σ' H' s' → RelV v u → Q v H' → CE outer P w H s Q u s' :=
      fun J rv qv => ⟨_, _, J.os, J.bare, J.base, J.hok, rv, qv⟩
    cases fl with
    | next => obtain ⟨σ', H', J, qv⟩ := q; exact close (v := .non) J rfl qv
    | ret u => obtain ⟨v, σ', H', J, rv, qv⟩ := q; exact close J rv qv
    | brk => obtain ⟨_, _, _, z⟩ := q; exact z.elim
    | cont => obtain ⟨_, _, _, z⟩ := q; exact z.elim
theorem fn_body {P : Program} {w : World} {mg : Str → Option Value} {base : Heap} {x qual : Str} {st : Stmt} {f : Addr} {fd : FuncData} {N ps : List Str} {k : Nat} {ec : Nat → Value} {io : List Nat} {m : M Ctl}
    (F : Fun K x qual st f fd) (S : FnScope N ps (defScope st)) (hN : ps.length ≤ N.length) (hio : ∀ i ∈ io, i < ps.length)
    (hbody : ∀ (cdv : Value) (A : Around) (outer : List Env) (s : Shared) (H : Hp) (E : XK), A.guards = some [] → Room k (A.deeper (PyProof.Rows.envOfC qual (defScope st) s.heap.objs.size f cdv)) →
      MSs ⟨ec, fun cls d _ H => E cls d H⟩ io (cxOf (L2.CX P w) P w K mg base N qual (defScope st) f cdv A outer s H E) (defBody st) m) :
    FnG P w K mg base (k + 1) f fd ps (spM K ec ps.length io (gOf N.length ps.length m)) := by
  refine fnG_of F S (fun vs H Q E h => h.1) fun cdv A outer s H vs Q E gd hr h => ?_
  obtain ⟨ts, hp, hs⟩ := hbody cdv A outer s H E gd hr
  obtain ⟨hn, W, a, hH, hWio, hσ, si, good⟩ := h
  refine ⟨ts, hp, ?_⟩
  obtain ⟨g0, F0, sl0⟩ := si
  have hio' : ∀ i ∈ W.io, i < ps.length := by rw [hWio]; exact hio
  have hla : a.length = ps.length := by
    have := sl0.len
    rw [List.length_map] at this
    omega
  have sl1 := start_slots (N := N) sl0 hn hN hσ hio'
  refine hs W W.B0 H (L2.start N vs) _ _ hWio ⟨g0, F0, sl1⟩ ?_
  unfold gOf at good
  rw [if_pos hla] at good
  cases q : m (a ++ List.replicate (N.length - ps.length) .un) with
  | stuck => rw [q] at good; exact good
  | err n d e =>
    rw [q] at good
    intro σ' v dx B' H' sb si' rv hx
    obtain ⟨g', F', sl'⟩ := si'
    exact good v dx B' H' sb ⟨g', _, outs_slots sl0 hn hσ sb sl'⟩ rv hx
  | ok c e =>
    rw [q] at good
    cases c with
    | brk => exact good.elim
    | cnt => exact good.elim
    | next =>
      intro σ' B' H' sb si'
      obtain ⟨g', F', sl'⟩ := si'
      exact good .non B' H' sb (SI.dat ⟨g', _, outs_slots sl0 hn hσ sb sl'⟩ .non)
    | ret r =>
      intro σ' v B' H' sb siv
      obtain ⟨g', F', Fv, sl', sv, hm, hd⟩ := siv
      refine good v B' H' sb ⟨g', _, Fv, outs_slots sl0 hn hσ sb sl', sv, hm, fun i x hx => ?_⟩
      by_cases z : i ∈ W.io
      · rw [if_pos z] at hx; exact hd i x hx
      · rw [if_neg z] at hx; simp at hx
/-! ### comprehensions -/
def Out.quiet {α : Type} : Out α → Out α
  | .err _ _ _ => .stuck
  | o => o
def compE (vs : List Nat) (t : D → Env' → Option Env') (c : M Bool) (f : M D) : List D → List D → M (List D)
  | [], acc, e => .ok acc e
  | x :: xs, acc, e => match t x e with
    | none => .stuck
    | some e1 => (c e1).quiet.bind fun b e2 => if b = true then (f e2).quiet.bind fun d e3 => compE vs t c f xs (acc ++ [d]) (forgetL vs e3) else compE vs t c f xs acc (forgetL vs e2)
def restoreL (vs : List Nat) (e0 e : Env') : Env' := vs.foldl (fun (e : Env') (i : Nat) => match e0[i]? with
  | some (Sl.dat d) => e.set i (Sl.dat d)
  | _ => e) e
def mComp (vs : List Nat) (it : M (List D)) (t : D → Env' → Option Env') (c : M Bool) (f : M D) : M Sl := fun e0 => (it e0).bind fun ds e =>
  if ds.length ≤ 16777216 then (compE vs t c f ds [] (forgetL vs e)).bind fun acc e2 => .ok (.own acc) (restoreL vs e e2) else .stuck
abbrev ax0 (ax : Ax) : Ax := ⟨ax.ec, fun _ _ _ _ => False⟩
theorem good_quiet {α β : Type} {R : Hp → β → α → Prop} {Q : β → Hp → Prop} {o : Out α} (h : ∀ (b : β) (B' H' : Hp) (a : α) (e : Env'), o = .ok a e → Same B B' → SI K W B' H' σ e → R B' b a → Q b H') (hs : o.quiet ≠ .stuck) : Good R K (ax0 ax) W σ B Q o := by
  cases o with
  | stuck => exact absurd rfl hs
  | err k d e => exact absurd rfl hs
  | ok a e => exact fun b B' H' s si r => h b B' H' a e rfl s si r
theorem SI.newOwn (h : SI K W B H σ env) {L : Addr} (hL : H L = none) : SIV K W B (upd H L (.lst [])) σ env (.ref L) (.own []) := by
  have hb : B L = none := h.same.free hL
  have h0 : W.H0 L = none := by
    cases q : W.H0 L with
    | none => rfl
    | some u => exact absurd hL (h.1.st L (by rw [q]; simp))
  obtain ⟨g, F, s⟩ := id h
  have gn := (SI.newH h (o := .lst []) hL).1
  have ne : ∀ i a, a ∈ F i → a ≠ L := fun i a ha z => by
    have m := (s.there i a ha).1
    rw [z, hL] at m; exact m
  refine ⟨gn, F, [L], s.grow (fun _ _ h => h) (fun _ _ _ h => h) fun i a ha o e => by rw [upd_ne (ne i a ha)]; exact e, ⟨L, [], rfl, by simp, ⟨hb, .inl h0⟩, upd_same, .nil, Nat.zero_le _⟩, fun a ha => ?_, fun i a ha => by simpa using ne i a ha⟩
  have : a = L := by simpa using ha
  subst this
  rw [upd_same]
  exact ⟨trivial, hb, .inl h0⟩
theorem SIV.writeV {L : Addr} {acc : List D} (h : SIV K W B H σ env (.ref L) (.own acc)) : ∃ vs, H L = some (.lst vs) ∧ RpAll K B vs acc ∧
    ∀ vs' acc', RpAll K B vs' acc' → vs'.length ≤ sizeLine → SIV K W B (upd H L (.lst vs')) σ env (.ref L) (.own acc') := by
  obtain ⟨g, F, Fv, s, ⟨p, vs, e, hpF, o, hp, rs, z⟩, hm, hd⟩ := h
  cases e
  have ne : ∀ i a, a ∈ F i → a ≠ L := fun i a ha z => hd i a ha (z ▸ hpF)
  refine ⟨vs, hp, rs, fun vs' acc' rs' z' => ⟨⟨g.b, fun b u e => by rw [upd_ne (ne_of_none e o.nb)]; exact g.bh _ _ e, g.fr, fun a u h1 h2 => ?_, fun a h1 => ?_⟩, F, [L], s.grow (fun _ _ h => h) (fun _ _ _ h => h) fun i a ha o e => by rw [upd_ne (ne i a ha)]; exact e,
    ⟨L, vs', rfl, by simp, ⟨o.nb, o.fr⟩, upd_same, rs', z'⟩, fun a ha => ?_, fun i a ha => by simpa using ne i a ha⟩⟩
  · have : a ≠ L := fun q => by
      subst q
      rcases o.fr with z | z
      · rw [z] at h2; cases h2
      · exact h1 z
    rw [upd_ne this]; exact g.keep a u h1 h2
  · by_cases q : a = L
    · rw [q, upd_same]; simp
    · rw [upd_ne q]; exact g.st a h1
  · have : a = L := by simpa using ha
    subst this
    rw [upd_same]
    exact ⟨trivial, o.nb, o.fr⟩
theorem SIV.more (h : SIV K W B H σ env v r) (g : Grow B H [] B' H') : SIV K W B' H' σ env v r := by
  obtain ⟨g0, F, Fv, s, sv, hm, hd⟩ := h
  refine ⟨g0.trans g (by simp), F, Fv, s.grow g.b (fun i a ha hb => g.fr a hb (s.there i a ha).1 (by simp)) (fun i a ha o e => g.keep a o (by simp) e), sv.grow g.b (fun a ha hb => g.fr a hb (hm a ha).1 (by simp)) (fun a ha o e => g.keep a o (by simp) e), fun a ha => ?_, hd⟩
  obtain ⟨m, o⟩ := hm a ha
  refine ⟨?_, g.fr a o.nb m (by simp), o.fr⟩
  cases q : H a with
  | none => rw [q] at m; exact m.elim
  | some u => rw [g.keep a u (by simp) q, ← q]; exact m
theorem SIV.forget (h : SIV K W B H σ env v r) (i : Nat) : SIV K W B H σ (env.set i .un) v r := by
  obtain ⟨g, F, Fv, s, sv, hm, hd⟩ := h
  refine ⟨g, _, Fv, s.turn (Fv := []) (.inl rfl) (by simp) (by simp), sv, hm, fun j a ha => ?_⟩
  by_cases q : j = i
  · rw [if_pos q] at ha; simp at ha
  · rw [if_neg q] at ha; exact hd j a ha
theorem SIV.forgets (is : List Nat) : ∀ {env : Env'}, SIV K W B H σ env v r → SIV K W B H σ (forgetL is env) v r := by
  unfold forgetL
  induction is with
  | nil => exact fun h => h
  | cons i r ih => exact fun h => ih (h.forget i)
theorem forgetL_length (is : List Nat) : ∀ e : Env', (forgetL is e).length = e.length := by
  unfold forgetL
  induction is with
  | nil => exact fun e => rfl
  | cons i r ih => exact fun e => by rw [List.foldl_cons, ih, List.length_set]
theorem forgetL_get (is : List Nat) : ∀ (e : Env') (j : Nat) (s : Sl), (forgetL is e)[j]? = some s → (s = .un) ∨ (j ∉ is ∧ e[j]? = some s) := by
  unfold forgetL
  induction is with
  | nil => exact fun e j s h => .inr ⟨by simp, h⟩
  | cons i r ih =>
    intro e j s h
    rw [List.foldl_cons] at h
    rcases ih _ j s h with q | ⟨q, q2⟩
    · exact .inl q
    · by_cases z : j = i
      · subst z
        by_cases y : j < e.length
        · rw [List.getElem?_set_self y] at q2; exact .inl (Option.some.inj q2).symm
        · rw [List.getElem?_eq_none (by rw [List.length_set]; omega)] at q2; cases q2
      · rw [List.getElem?_set_ne (Ne.symm z)] at q2
        exact .inr ⟨by simp only [List.mem_cons, not_or]; exact ⟨z, q⟩, q2⟩
theorem wipe_out' {σ : L2.St} {i : Nat} : ∀ {vs : List Nat}, i ∉ vs → (wipe σ vs)[i]? = σ[i]? := fun h => wipe_out h
/-- the block's world -/
def blkW (B H : Hp) (F : Nat → List Addr) (n : Nat) : Wd := ⟨B, H, (List.range n).flatMap F, [], []⟩
theorem mem_blk {B H : Hp} {F : Nat → List Addr} {n : Nat} {a : Addr} (h : a ∈ (blkW B H F n).ft) : ∃ i, i < n ∧ a ∈ F i := by
  unfold blkW at h
  obtain ⟨i, hi, ha⟩ := List.mem_flatMap.mp h
  exact ⟨i, List.mem_range.mp hi, ha⟩
theorem block_in {vs : List Nat} {F : Nat → List Addr} (g : Grow W.B0 W.H0 W.ft B H) (s : Slots K W B H σ env F) : SI K (blkW B H F env.length) B H (wipe σ vs) (forgetL vs env) := by
  refine ⟨Grow.refl g.bh _, fun i => if i < env.length then F i else [], by rw [wipe_length, forgetL_length]; exact s.len, fun i hi => by simp [blkW] at hi, fun j x e => ?_, fun j a ha => ?_, fun i j a h1 h2 => ?_⟩
  · rcases forgetL_get vs env j x e with q | ⟨q, q2⟩
    · exact .inl q
    · have hj := (List.getElem?_eq_some_iff.mp q2).1
      rw [if_pos hj, wipe_out' q]
      rcases s.at_ j x q2 with z | ⟨v, ev, sv⟩
      · exact .inl z
      · refine .inr ⟨v, ev, ?_⟩
        have mm : ∀ p, p ∈ F j → p ∈ (blkW B H F env.length).ft := fun p hp => List.mem_flatMap.mpr ⟨j, List.mem_range.mpr hj, hp⟩
        cases x with
        | un => trivial
        | dat d => exact sv
        | own es => obtain ⟨p, us, e, m, o, hp, rs, z⟩ := sv; exact ⟨p, us, e, m, ⟨o.nb, .inr (mm p m)⟩, hp, rs, z⟩
        | deal cs b => obtain ⟨p, q, e, m, n, ne, o, u, hp, hq⟩ := sv; exact ⟨p, q, e, m, n, ne, ⟨o.nb, .inr (mm p m)⟩, ⟨u.nb, .inr (mm q n)⟩, hp, hq⟩
        | scr ns => exact sv
        | dcT kvs => obtain ⟨p, L, e, m, o, hp, rs⟩ := sv; exact ⟨p, L, e, m, ⟨o.nb, .inr (mm p m)⟩, hp, rs⟩
        | dcI kvs => obtain ⟨p, L, e, m, o, hp, rs⟩ := sv; exact ⟨p, L, e, m, ⟨o.nb, .inr (mm p m)⟩, hp, rs⟩
  · by_cases q : j < env.length
    · rw [if_pos q] at ha
      obtain ⟨m, o⟩ := s.there j a ha
      exact ⟨m, o.nb, .inr (List.mem_flatMap.mpr ⟨j, List.mem_range.mpr q, ha⟩)⟩
    · rw [if_neg q] at ha; simp at ha
  · by_cases q : i < env.length <;> by_cases q2 : j < env.length
    · rw [if_pos q] at h1; rw [if_pos q2] at h2; exact s.dis i j a h1 h2
    · rw [if_neg q2] at h2; simp at h2
    · rw [if_neg q] at h1; simp at h1
    · rw [if_neg q] at h1; simp at h1
theorem block_out {vs : List Nat} {F : Nat → List Addr} {Fv : List Addr} {L : Addr} {acc : List D} {σ2 : L2.St} {e2 : Env'} (g : Grow W.B0 W.H0 W.ft B H) (s : Slots K W B H σ env F) (sv : SlV K W B H Fv (.ref L) (.own acc)) (hm : ∀ a ∈ Fv, Mut (H a) ∧ Ownd W B H a) (hd : ∀ i a, a ∈ F i → a ∉ Fv)
    (si : SI K (blkW B H F env.length) B' H' σ2 e2) (hw : wipe σ2 vs = wipe σ vs) : SIV K W B' H' σ (forgetL vs e2) (.ref L) (.own acc) := by
  obtain ⟨g2, F2, s2⟩ := si
  have hft : ∀ a ∈ (blkW B H F env.length).ft, W.H0 a = none ∨ a ∈ W.ft := fun a ha => let ⟨i, _, h⟩ := mem_blk ha; (s.there i a h).2.fr
  have nft : ∀ a ∈ Fv, a ∉ (blkW B H F env.length).ft := fun a ha h => let ⟨i, _, h⟩ := mem_blk h; hd i a h ha
  have c : ∀ p, Ownd (blkW B H F env.length) B' H' p → Ownd W B' H' p := fun p o => Ownd.out (W2 := blkW B H F env.length) g rfl hft o
  have g2' : Grow B H (blkW B H F env.length).ft B' H' := g2
  have hσ : ∀ j, j ∉ vs → σ2[j]? = σ[j]? := fun j hj => by rw [← wipe_out' (vs := vs) (σ := σ2) hj, hw, wipe_out' hj]
  refine ⟨g.trans g2' hft, fun j => if j ∈ vs then [] else F2 j, Fv, ⟨?_, s.pin, fun j x e => ?_, fun j a ha => ?_, fun i j a h1 h2 => ?_⟩, sv.grow g2'.b (fun a ha hb => g2'.fr a hb (hm a ha).1 (nft a ha)) (fun a ha o e => g2'.keep a o (nft a ha) e), fun a ha => ?_, fun j a ha hv => ?_⟩
  · rw [forgetL_length, ← s2.len]
    have := congrArg List.length hw
    rw [wipe_length, wipe_length] at this
    exact this.symm
  · rcases forgetL_get vs e2 j x e with q | ⟨q, q2⟩
    · exact .inl q
    · rw [if_neg q, ← hσ j q]
      exact (s2.at_ j x q2).out c
  · skip
    by_cases q : j ∈ vs
    · rw [if_pos q] at ha; simp at ha
    · rw [if_neg q] at ha
      exact ⟨(s2.there j a ha).1, c a (s2.there j a ha).2⟩
  · by_cases q : i ∈ vs <;> by_cases q2 : j ∈ vs
    · rw [if_pos q] at h1; simp at h1
    · rw [if_pos q] at h1; simp at h1
    · rw [if_pos q2] at h2; simp at h2
    · rw [if_neg q] at h1; rw [if_neg q2] at h2; exact s2.dis i j a h1 h2
  · obtain ⟨m, o⟩ := hm a ha
    refine ⟨?_, g2'.fr a o.nb m (nft a ha), o.fr⟩
    cases q : H a with
    | none => rw [q] at m; exact m.elim
    | some u => rw [g2'.keep a u (nft a ha) q, ← q]; exact m
  · dsimp only at ha
    by_cases q : j ∈ vs
    · rw [if_pos q] at ha; simp at ha
    · rw [if_neg q] at ha
      rcases (s2.there j a ha).2.fr with z | z
      · have m := (hm a hv).1
        have z' : H a = none := z
        rw [z'] at m; exact m
      · exact nft a hv z
theorem SIV.restores {e0 : Env'} (vs : List Nat) (h0 : SI K W B H σ e0) (sb : Same B B') : ∀ {e : Env'}, SIV K W B' H' σ e v r → SIV K W B' H' σ (restoreL vs e0 e) v r := by
  unfold restoreL
  induction vs with
  | nil => exact fun h => h
  | cons i r ih =>
    intro e h
    rw [List.foldl_cons]
    refine ih ?_
    split
    · rename_i d hd
      obtain ⟨v, ev, rv⟩ := h0.at_dat hd
      obtain ⟨g, F, Fv, s, sv, hm, hdj⟩ := h
      refine ⟨g, _, Fv, s.turn (Fv := []) (.inr ⟨v, ev, Rp.mono sb rv⟩) (by simp) (by simp), sv, hm, fun j a ha => ?_⟩
      by_cases q : j = i
      · rw [if_pos q] at ha; simp at ha
      · rw [if_neg q] at ha; exact hdj j a ha
    · exact h
/-- a target stores into the block's own slots alone -/
def GIn (vs : List Nat) (g : TG) : Prop := ∀ (v : V) (σ : L2.St) (H : Hp) (Q Q' : L2.St → Hp → Prop), g v σ H Q → (∀ σ' H', wipe σ' vs = wipe σ vs → Q σ' H' → Q' σ' H') → g v σ H Q'
def GIns (vs : List Nat) (g : TGs) : Prop := ∀ (us : List V) (σ : L2.St) (H : Hp) (Q Q' : L2.St → Hp → Prop), g us σ H Q → (∀ σ' H', wipe σ' vs = wipe σ vs → Q σ' H' → Q' σ' H') → g us σ H Q'
theorem wipe_set {σ : L2.St} {i : Nat} {x : Option V} : ∀ {vs : List Nat}, i ∈ vs → wipe (σ.set i x) vs = wipe σ vs
  | [], h => by simp at h
  | j :: vs, h => by
    unfold wipe
    by_cases q : i ∈ vs
    · rw [wipe_set q]
    · have e : i = j := by simpa [q] using h
      subst e
      have w : ∀ {us : List Nat}, i ∉ us → wipe (σ.set i x) us = (wipe σ us).set i x := by
        intro us
        induction us with
        | nil => exact fun _ => rfl
        | cons k us ih =>
          intro hk
          simp only [List.mem_cons, not_or] at hk
          unfold wipe
          rw [ih hk.2, List.set_comm _ _ hk.1]
      rw [w q, List.set_set]
theorem gin_name {vs : List Nat} {i : Nat} (h : i ∈ vs) : GIn vs (gName i) := fun v σ H Q Q' q k => k _ _ (wipe_set h) q
theorem gin_nil {vs : List Nat} : GIns vs gNil := fun us σ H Q Q' q k => ⟨q.1, k _ _ rfl q.2⟩
theorem gin_cons {vs : List Nat} {g : TG} {gs : TGs} (h : GIn vs g) (hs : GIns vs gs) : GIns vs (gCons g gs) := fun us σ H Q Q' q k => by
  obtain ⟨v, r, e, q⟩ := q
  exact ⟨v, r, e, h v σ H _ _ q fun σ' H' w q' => hs r σ' H' _ _ q' fun σ2 H2 w2 q2 => k _ _ (w2.trans w) q2⟩
theorem gin_tup {vs : List Nat} {gs : TGs} {n : Nat} (hs : GIns vs gs) : GIn vs (gTup K n gs) := fun v σ H Q Q' q k => by
  obtain ⟨a, xs, e, h, l, q⟩ := q
  exact ⟨a, xs, e, h, l, hs xs σ H _ _ q k⟩
end
end Lp

namespace Lp
open PySem PySem.Spec L2
set_option autoImplicit false
section
variable {K : PySem.W.Frag} {ax : Ax} {W : Wd} {B B' H H' : Hp} {σ : L2.St} {env : Env'} {io : List Nat} {X : Cx} {v : V} {r : Sl} {d : D}
theorem quiet_ok {α : Type} {o : Out α} {a : α} {e : Env'} (h : o.quiet = .ok a e) : o = .ok a e := by
  cases o with
  | stuck => exact h
  | err k d e => cases h
  | ok b e' => exact h
theorem forgetL_at (is : List Nat) : ∀ (e : Env') (j : Nat), (forgetL is e)[j]? = if j ∈ is then (e[j]?).map (fun _ => Sl.un) else e[j]? := by
  unfold forgetL
  induction is with
  | nil => intro e j; simp
  | cons i r ih =>
    intro e j
    rw [List.foldl_cons, ih]
    by_cases q : j ∈ r
    · rw [if_pos q, if_pos (List.mem_cons_of_mem _ q), List.getElem?_set]
      split
      · rename_i h; subst h; split <;> rename_i h2
        · rw [List.getElem?_eq_getElem h2]; rfl
        · rw [List.getElem?_eq_none (by omega)]
          try rfl
      · rfl
    · rw [if_neg q]
      by_cases z : j = i
      · subst z
        rw [if_pos (List.mem_cons_self ..), List.getElem?_set]
        rw [if_pos rfl]
        split <;> rename_i h2
        · rw [List.getElem?_eq_getElem h2]; rfl
        · rw [List.getElem?_eq_none (by omega)]
          try rfl
      · rw [if_neg (by simp [z, q]), List.getElem?_set_ne (Ne.symm z)]
theorem forgetL_idem (is : List Nat) (e : Env') : forgetL is (forgetL is e) = forgetL is e := by
  refine List.ext_getElem? fun j => ?_
  rw [forgetL_at]
  split
  · rename_i h
    rw [forgetL_at, if_pos h]
    cases e[j]? <;> rfl
  · rfl
theorem wipe_idem {σ : L2.St} (vs : List Nat) : wipe (wipe σ vs) vs = wipe σ vs := by
  have h : ∀ (us ws : List Nat) (σ : L2.St), (∀ i ∈ us, i ∈ ws) → wipe (wipe σ us) ws = wipe σ ws := by
    intro us
    induction us with
    | nil => intro ws σ _; rfl
    | cons i us ih =>
      intro ws σ h
      show wipe ((wipe σ us).set i none) ws = wipe σ ws
      rw [wipe_set (h i (List.mem_cons_self ..))]
      exact ih ws σ fun j hj => h j (List.mem_cons_of_mem _ hj)
  exact h vs vs σ fun i hi => hi
theorem GIn_use {g : TG} {t : D → Env' → Option Env'} {vs : List Nat} {σ0 : L2.St} {e e' : Env'} {x : V} {W2 : Wd} {Q : L2.St → Hp → Prop} (hin : GIn vs g) (hg : SG K [] g t) (si : SI K W2 B H σ0 e) (rx : Rp K B x d) (q : t d e = some e') {w : L2.St} (hw : wipe σ0 vs = w) (k : ∀ σ', SI K W2 B H σ' e' → wipe σ' vs = w → Q σ' H) (hio : W2.io = [] := by rfl) : g x σ0 H Q :=
  hin x σ0 H (fun σ' H' => H' = H ∧ SI K W2 B H' σ' e') Q (hg W2 B H σ0 e e' x d _ hio si rx q fun σ' si' => ⟨rfl, si'⟩) fun σ' H' w q => by
    obtain ⟨rfl, q⟩ := q
    exact k σ' q (w.trans hw)
theorem so_comp {wi : TI} {g : TG} {tt : TT} {te : TE} {it : M (List D)} {t : D → Env' → Option Env'} {c : M Bool} {f : M D} {vs : List Nat} (hi : SIt K ax wi it) (hg : SG K [] g t) (hin : GIn vs g) (hc : ST K (ax0 ax) tt c) (hf : SD K (ax0 ax) te f) :
    SO K ax (tLc wi g tt te vs) (mComp vs it t c f) := fun W B H σ env Q si gd =>
  hi W B H σ env _ si (GoodO.bind gd fun ds e J B1 H1 s1 si1 r1 g1 => by
    intro L hL
    by_cases hz : ds.length ≤ 16777216
    case neg => rw [if_neg hz] at g1; exact g1.elim
    rw [if_pos hz] at g1
    refine ⟨fun i m H => m = ds.length - i ∧ i ≤ ds.length ∧ ∃ B2 e2 acc, Same B1 B2 ∧ SIV K W B2 H σ e2 (.ref L) (.own acc) ∧ acc.length ≤ i ∧ forgetL vs e2 = e2 ∧ GoodO K ax W σ B2 Q ((compE vs t c f (ds.drop i) acc e2).bind fun acc e3 => .ok (.own acc) (restoreL vs e e3)),
      ⟨ds.length, rfl, Nat.zero_le _, B1, forgetL vs e, [], fun _ _ h => h, (si1.newOwn hL).forgets vs, Nat.zero_le _, forgetL_idem vs e, g1⟩, fun i m H2 w => ?_⟩
    obtain ⟨rfl, hil, B2, e2, acc, s2, siv, hacc, hfe, g2⟩ := w
    by_cases hlt : i < ds.length
    · refine .inr ?_
      obtain ⟨yg, ys⟩ := r1 B2 H2 i s2 siv.1.bh
      obtain ⟨jg, jy⟩ := yg ds[i] (List.getElem?_eq_getElem hlt)
      rw [List.drop_eq_getElem_cons hlt] at g2
      refine ⟨jg, fun H' => ∃ B3 e3 acc', Same B1 B3 ∧ SIV K W B3 H' σ e3 (.ref L) (.own acc') ∧ acc'.length ≤ i + 1 ∧ forgetL vs e3 = e3 ∧ GoodO K ax W σ B3 Q ((compE vs t c f (ds.drop (i + 1)) acc' e3).bind fun acc e4 => .ok (.own acc) (restoreL vs e e4)), fun H' n => ⟨ds.length - (i + 1), by omega, rfl, hlt, n⟩, fun x H' y => ?_⟩
      obtain ⟨B3, gr, rx⟩ := jy x H' y
      obtain ⟨gw, F, Fv, sl, sv, hm, hd⟩ := siv.more gr
      have sb := block_in (vs := vs) gw sl
      unfold compE at g2
      -- the env of the block: what is at vs is forgotten already
      cases q : t ds[i] e2 with
      | none => rw [q] at g2; exact g2.elim
      | some e3 =>
        rw [q] at g2
        dsimp only at g2
        rw [hfe] at sb
        refine GIn_use hin hg sb rx q (wipe_idem vs) fun σ4 si4 hw4 => ⟨hw4, hc _ B3 H' σ4 e3 _ si4 (good_quiet (fun b B5 H5 b' e5 he5 s5 si5 r5 => ?_) ?_)⟩
        · subst r5
          have g3 : GoodO K ax W σ B2 Q ((if b = true then (f e5).quiet.bind fun d e3 => compE vs t c f (ds.drop (i + 1)) (acc ++ [d]) (forgetL vs e3) else compE vs t c f (ds.drop (i + 1)) acc (forgetL vs e5)).bind fun acc e3 => .ok (.own acc) (restoreL vs e e3)) := by
            have g2' := g2
            rw [he5] at g2'
            exact g2'
          cases b with
          | false =>
            rw [if_neg Bool.false_ne_true] at g3 ⊢
            have s35 : Same B2 B5 := gr.b.trans s5
            exact ⟨B5, forgetL vs e5, acc, s2.trans s35, block_out gw sl sv hm hd si5 hw4, by omega, forgetL_idem vs e5, GoodO.up s35 g3⟩
          | true =>
            rw [if_pos rfl] at g3 ⊢
            refine hf _ B5 H5 σ4 e5 _ si5 (good_quiet (fun y B6 H6 d e6 he6 s6 si6 r6 => ?_) ?_)
            · have g4 : GoodO K ax W σ B2 Q ((compE vs t c f (ds.drop (i + 1)) (acc ++ [d]) (forgetL vs e6)).bind fun acc e3 => .ok (.own acc) (restoreL vs e e3)) := by
                have g3' := g3
                rw [he6] at g3'
                exact g3'
              have s26 : Same B2 B6 := (gr.b.trans s5).trans s6
              have siv6 := block_out gw sl sv hm hd si6 hw4
              obtain ⟨us, hL6, rs, wr⟩ := siv6.writeV
              have hul : us.length = acc.length := rs.length
              refine ⟨us, hL6, by rw [hul, PySem.sizeLine_eq]; omega, B6, forgetL vs e6, acc ++ [d], s2.trans s26, wr _ _ (rs.append (.cons r6 .nil)) ?_, ?_, forgetL_idem vs e6, GoodO.up s26 g4⟩
              · rw [List.length_append, List.length_singleton, hul, PySem.sizeLine_eq]; omega
              · rw [List.length_append, List.length_singleton]; omega
            · intro z
              rw [z] at g3
              exact g3
        · intro z
          have g2' := g2
          rw [z] at g2'
          exact g2'
    · have hi : i = ds.length := by omega
      obtain ⟨yg, ys⟩ := r1 B2 H2 i s2 siv.1.bh
      refine .inl ⟨ys (by omega), ?_⟩
      rw [List.drop_eq_nil_of_le (by omega)] at g2
      refine g2 (.ref L) B2 H2 (fun _ _ h => h) (siv.restores vs si1 s2))
end
end Lp

namespace Lp
open PySem PySem.Spec L2
set_option autoImplicit false
/-! ### judgements composed -/
section
variable {ax : Ax} {X : Cx} {a b c : Expr} {f h k : M D} {pos : Pos}
theorem md_var (i : Nat) {x : Str} {pos : Pos} (hN : X.N[i]? = some x := by rfl) (hv : Vis X.env.scope x := by first | exact Or.inl rfl | exact Or.inr (Or.inl rfl) | exact Or.inr (Or.inr rfl)) (hd : (x == ("__debug__" : Str)) = false := by decide)
    (hcd : (x == ("__classdict__" : Str)) = false := by decide) : MD ax X (.Name x pos) (mVar i) := ⟨_, pe_var hN hv hd hcd, sd_var⟩
theorem md_int {i : Int} {j : Nat} : MD ax X (.Constant (.int i) j pos) (mC (.int i)) := ⟨_, pe_int, sd_c fun _ => .int i⟩
theorem md_bl {b : Bool} {j : Nat} : MD ax X (.Constant (.bool b) j pos) (mC (.bool b)) := ⟨_, pe_bl, sd_c fun _ => .bl b⟩
theorem md_non {j : Nat} : MD ax X (.Constant .none j pos) (mC .none) := ⟨_, pe_non, sd_c fun _ => .non⟩
theorem md_str {x : Str} {j : Nat} : MD ax X (.Constant (.str x) j pos) (mC (.str x)) := ⟨_, pe_str, sd_c fun _ => .str x⟩
theorem md_globI {x : Str} {n : Int} {t : Tok} (hm : X.mg x = some (.int n t)) (hg : Gl X x := by rfl) (hdb : (x == ("__debug__" : Str)) = false := by decide) : MD ax X (.Name x pos) (mC (.int n)) := ⟨_, pe_glob (v := V.int n) hg hm ⟨t, rfl⟩ hdb, sd_c fun _ => .int n⟩
theorem md_op {op : Operator} {r : R2} {g : D → D → Option D} (ho : OpR X (binaryOp op) r) (p : Pure2 X.K r g) (ha : MD ax X a f) (hb : MD ax X b h) : MD ax X (.BinOp a op b pos) (mOp g f h) :=
  let ⟨_, pa, sa⟩ := ha; let ⟨_, pb, sb⟩ := hb; ⟨_, pe_op ho pa pb, sd_op p sa sb⟩
theorem md_un {op : UnaryOp} {r : V → Hp → VK → Prop} {g : D → Option D} (ho : UnR X (unaryOp op) r) (p : Pure1 X.K r g) (ha : MD ax X a f) : MD ax X (.UnaryOp op a pos) (mUn g f) :=
  let ⟨_, pa, sa⟩ := ha; ⟨_, pe_un ho pa, sd_un p sa⟩
theorem md_cmp {op : CmpOp} {r : R2} {g : D → D → Option D} (ho : OpR X (compareOp op) r) (p : Pure2 X.K r g) (ha : MD ax X a f) (hb : MD ax X b h) (hm : behindInMarks op b = false) : MD ax X (.Compare a [op] [b] pos) (mOp g f h) :=
  let ⟨_, pa, sa⟩ := ha; let ⟨_, pb, sb⟩ := hb; ⟨_, pe_cmpR ho pa pb hm, sd_op p sa sb⟩
theorem mt_cmp {op : CmpOp} {r : R2} {g : D → D → Option D} (ho : OpR X (compareOp op) r) (p : Pure2 X.K r g) (ha : MD ax X a f) (hb : MD ax X b h) (hm : behindInMarks op b = false) : MT ax X (.Compare a [op] [b] pos) (mTst (mOp g f h)) :=
  let ⟨_, pa, sa⟩ := ha; let ⟨_, pb, sb⟩ := hb; ⟨_, pt_cmpR ho pa pb hm, st_tst (sd_op p sa sb)⟩
/-- a test that is True or False -/
theorem mt_val {e : Expr} (h : MD ax X e f) (he : ∀ whole, isTrue e X.env whole = (do let v ← whole; standAt e.pos; holding [v] (truthy v)) := by intro _; rfl) : MT ax X e (mTst f) :=
  let ⟨_, p, s⟩ := h; ⟨_, pt_val p he, st_tst s⟩
theorem mt_not {t : M Bool} (h : MT ax X a t) : MT ax X (.UnaryOp .Not a pos) (mNot t) := let ⟨_, p, s⟩ := h; ⟨_, pt_not p, st_not s⟩
theorem mt_of {t : M Bool} (h : MW ax X a t) : MT ax X a t := let ⟨_, p, s⟩ := h; ⟨_, p.pt, s⟩
theorem mw_and1 {t : M Bool} (h : MT ax X a t) : MW ax X (.BoolOp .And [a] pos) t := let ⟨_, p, s⟩ := h; ⟨_, pw_and1 p, s⟩
theorem mw_or1 {t : M Bool} (h : MT ax X a t) : MW ax X (.BoolOp .Or [a] pos) t := let ⟨_, p, s⟩ := h; ⟨_, pw_or1 p, s⟩
theorem mw_and {t u : M Bool} {r : List Expr} (h : MT ax X a t) (hb : MW ax X (.BoolOp .And (b :: r) pos) u) : MW ax X (.BoolOp .And (a :: b :: r) pos) (mAnd t u) := let ⟨_, p, s⟩ := h; let ⟨_, p', s'⟩ := hb; ⟨_, pw_and p p', st_and s s'⟩
theorem mw_or {t u : M Bool} {r : List Expr} (h : MT ax X a t) (hb : MW ax X (.BoolOp .Or (b :: r) pos) u) : MW ax X (.BoolOp .Or (a :: b :: r) pos) (mOr t u) := let ⟨_, p, s⟩ := h; let ⟨_, p', s'⟩ := hb; ⟨_, pw_or p p', st_or s s'⟩
theorem md_one {op : PySem.BoolOp} (h : MD ax X a f) : MD ax X (.BoolOp op [a] pos) f := let ⟨_, p, s⟩ := h; ⟨_, pe_one p, s⟩
theorem md_and {r : List Expr} (ha : MD ax X a f) (hb : MD ax X (.BoolOp .And (b :: r) pos) h) : MD ax X (.BoolOp .And (a :: b :: r) pos) (mAndV f h) := let ⟨_, p, s⟩ := ha; let ⟨_, p', s'⟩ := hb; ⟨_, pe_and p p', sd_andV s s'⟩
theorem md_or {r : List Expr} (ha : MD ax X a f) (hb : MD ax X (.BoolOp .Or (b :: r) pos) h) : MD ax X (.BoolOp .Or (a :: b :: r) pos) (mOrV f h) := let ⟨_, p, s⟩ := ha; let ⟨_, p', s'⟩ := hb; ⟨_, pe_or p p', sd_orV s s'⟩
theorem md_not (ha : MD ax X a f) : MD ax X (.UnaryOp .Not a pos) (mNotV f) := let ⟨_, p, s⟩ := ha; ⟨_, pe_not p, sd_notV s⟩
theorem md_if {t : M Bool} (hc : MT ax X c t) (ha : MD ax X a f) (hb : MD ax X b h) : MD ax X (.IfExp c a b pos) (mIfE t f h) := let ⟨_, p, s⟩ := hc; let ⟨_, p1, s1⟩ := ha; let ⟨_, p2, s2⟩ := hb; ⟨_, pe_ifExp p p1 p2, sd_if s s1 s2⟩
theorem ma_nil : MA ax X [] mNil := ⟨_, pa_nil, sa_nil⟩
theorem ma_cons {es : List Expr} {r : M (List D)} (ha : MD ax X a f) (hr : MA ax X es r) (hs : starEach (a :: es) X.env = (false, eval a X.env) :: starEach es X.env := by rfl) : MA ax X (a :: es) (mCons f r) := let ⟨_, p, s⟩ := ha; let ⟨_, p', s'⟩ := hr; ⟨_, pa_cons p p' hs, sa_cons s s'⟩
/-- a built-in by its name -/
theorem md_b {x : Str} {id : String} {r : List V → Hp → VK → Prop} {g : List D → Option D} {e : Expr} {es : List Expr} {fa : M (List D)} {p : Pos} (hc : CallR X (.builtin id) r) (pu : PureN X.K r g) (hm : X.mg x = none) (hv : bootBuiltins x = some (.builtin id)) (ha : MA ax X (e :: es) fa) (hg : Gl X x := by rfl)
    (hn : x ≠ "__name__" := by decide) (hdb : (x == ("__debug__" : Str)) = false := by decide) (hs : starEach (e :: es) X.env = (false, eval e X.env) :: starEach es X.env := by rfl) (hpl : (backTo pos (starEach es X.env)).any (·.1) = false := by rfl) :
    MD ax X (.Call (.Name x p) (e :: es) [] pos) (mB g fa) := let ⟨_, p', s'⟩ := ha; ⟨_, pe_callB hc hg hm hv p' hn hdb hs hpl, sd_cb pu s'⟩
theorem md_ty {x : Str} {T : String} {r : List V → Hp → VK → Prop} {g : List D → Option D} {e : Expr} {es : List Expr} {fa : M (List D)} {p : Pos} (hc : CallR X (.type T) r) (pu : PureN X.K r g) (hm : X.mg x = none) (hv : bootBuiltins x = some (.type T)) (ha : MA ax X (e :: es) fa) (hg : Gl X x := by rfl)
    (hn : x ≠ "__name__" := by decide) (hdb : (x == ("__debug__" : Str)) = false := by decide) (hs : starEach (e :: es) X.env = (false, eval e X.env) :: starEach es X.env := by rfl) (hpl : (backTo pos (starEach es X.env)).any (·.1) = false := by rfl) :
    MD ax X (.Call (.Name x p) (e :: es) [] pos) (mB g fa) := let ⟨_, p', s'⟩ := ha; ⟨_, pe_callTy hc hg hm hv p' hn hdb hs hpl, sd_cb pu s'⟩
end
/-! ### operations -/
section
variable {K : PySem.W.Frag} {B B' H H' : Hp} {X : Cx}
def opI (c : Int → Int → Bool) (g : Int → Int → D) : D → D → Option D
  | .int i, .int j => if c i j = true then some (g i j) else none
  | _, _ => none
theorem pure_rI {C : Int → Int → Prop} {c : Int → Int → Bool} {gv : Int → Int → V} {g : Int → Int → D} (hc : ∀ i j, c i j = true → C i j) (hg : ∀ B i j, Rp K B (gv i j) (g i j)) : Pure2 K (rI C gv) (opI c g) := fun B H x y a b d Q s rx ry e q => by
  unfold opI at e
  split at e
  · rename_i i j
    split at e
    · rename_i hij
      cases e
      cases rx
      cases ry
      exact ⟨i, j, rfl, rfl, hc i j hij, pure_val s q (hg B i j)⟩
    · cases e
  · cases e
def tt2 : Int → Int → Bool := fun _ _ => true
theorem pure_rI0 {gv : Int → Int → V} {g : Int → Int → D} (hg : ∀ B i j, Rp K B (gv i j) (g i j)) : Pure2 K (rI0 gv) (opI tt2 g) := fun B H x y a b d Q s rx ry e q => by
  unfold opI at e
  split at e
  · rename_i i j
    rw [if_pos (show tt2 i j = true from rfl)] at e
    cases e
    cases rx
    cases ry
    exact ⟨i, j, rfl, rfl, pure_val s q (hg B i j)⟩
  · cases e
/-- one of two readings -/
def rOr (r r' : R2) : R2 := fun x y H Q => r x y H Q ∨ r' x y H Q
theorem opr_or {f : Value → Value → Sem Value} {r r' : R2} (h : OpR X f r) (h' : OpR X f r') : OpR X f (rOr r r') := fun pins s σ H x y v u Q I rx ry q => by
  rcases q with q | q
  · exact h pins s σ H x y v u Q I rx ry q
  · exact h' pins s σ H x y v u Q I rx ry q
def oOr (g g' : D → D → Option D) : D → D → Option D := fun a b => match g a b with
  | some d => some d
  | none => g' a b
theorem pure_or {r r' : R2} {g g' : D → D → Option D} (h : Pure2 K r g) (h' : Pure2 K r' g') : Pure2 K (rOr r r') (oOr g g') := fun B H x y a b d Q s rx ry e q => by
  unfold oOr at e
  cases q1 : g a b with
  | some d' => rw [q1] at e; cases e; exact .inl (h B H x y a b d Q s rx ry q1 q)
  | none => rw [q1] at e; exact .inr (h' B H x y a b d Q s rx ry e q)
/-! sums -/
def catL : D → D → Option D
  | .list a, .list b => if a.length + b.length ≤ 16777216 then some (.list (a ++ b)) else none
  | _, _ => none
theorem pure_catL : Pure2 K rCat catL := fun B H x y a b d Q s rx ry e q => by
  unfold catL at e
  split at e
  · split at e
    · rename_i hz
      cases e
      cases rx with
      | lst h1 z1 r1 =>
        cases ry with
        | lst h2 z2 r2 =>
          have hl : ∀ {n m : Nat}, n + m ≤ 16777216 → n + m ≤ sizeLine := fun h => by rw [sizeLine_eq]; exact h
          have hz' := hl (by rw [← r1.length, ← r2.length] at hz; exact hz)
          exact ⟨_, _, _, _, rfl, rfl, s _ _ h1, s _ _ h2, hz', fun p hp => pure_list s q (r1.append r2) (by rw [List.length_append]; exact hz') hp⟩
    · cases e
  · cases e
def catT : D → D → Option D
  | .tuple a, .tuple b => if a.length + b.length ≤ 16777216 then some (.tuple (a ++ b)) else none
  | _, _ => none
theorem pure_catT : Pure2 K (rCatA K) catT := fun B H x y a b d Q s rx ry e q => by
  unfold catT at e
  split at e
  · split at e
    · rename_i hz
      cases e
      cases rx with
      | tup h1 z1 r1 =>
        cases ry with
        | tup h2 z2 r2 =>
          have hl : ∀ {n m : Nat}, n + m ≤ 16777216 → n + m ≤ sizeLine := fun h => by rw [sizeLine_eq]; exact h
          have hz' := hl (by rw [← r1.length, ← r2.length] at hz; exact hz)
          refine ⟨_, _, _, _, rfl, rfl, Same.sqT s h1, Same.sqT s h2, hz', fun e1 => ?_, fun _ e2 => ?_, fun _ _ p hp => pure_tup s q (r1.append r2) (by rw [List.length_append]; exact hz') hp⟩
          · subst e1
            cases r1
            exact q _ B H (grow_same s) (.tup h2 z2 r2)
          · subst e2
            cases r2
            rw [List.append_nil] at q
            exact q _ B H (grow_same s) (.tup h1 z1 r1)
    · cases e
  · cases e
def addI : D → D → Option D := opI tt2 fun i j => .int (i + j)
def addD : D → D → Option D := oOr addI (oOr catL catT)
theorem op_addD : OpR X (binaryOp .Add) (rOr (rI0 fun i j => .int (i + j)) (rOr (rCat) (rCatA X.K))) := opr_or op_add (opr_or op_cat op_catA)
theorem pure_addD : Pure2 K (rOr (rI0 fun i j => .int (i + j)) (rOr (rCat) (rCatA K))) addD := pure_or (pure_rI0 fun _ i j => .int _) (pure_or pure_catL pure_catT)
def subD : D → D → Option D := opI tt2 fun i j => .int (i - j)
theorem pure_sub : Pure2 K (rI0 fun i j => .int (i - j)) subD := pure_rI0 fun _ i j => .int _
def mulOk (i j : Int) : Bool := decide (i.natAbs.log2 + j.natAbs.log2 < 1000000)
def mulD : D → D → Option D := opI mulOk fun i j => .int (i * j)
theorem pure_mul : Pure2 K (rI CMulW fun i j => .int (i * j)) mulD := pure_rI (fun i j h => show i.natAbs.log2 + j.natAbs.log2 < 1000000 from of_decide_eq_true h) fun _ i j => .int _
def divOk (_ j : Int) : Bool := decide (0 < j) && decide (j.natAbs.log2 < 9000)
def divD : D → D → Option D := opI divOk fun i j => .int (i / j)
theorem pure_div : Pure2 K (rI CDivW fun i j => .int (i / j)) divD := pure_rI (fun i j h => by
  unfold divOk at h
  rw [Bool.and_eq_true] at h
  exact ⟨of_decide_eq_true h.1, of_decide_eq_true h.2⟩) fun _ i j => .int _
def modOk (_ j : Int) : Bool := decide (0 < j)
def modD : D → D → Option D := opI modOk fun i j => .int (i % j)
theorem pure_mod : Pure2 K (rI (fun _ j => j ≠ 0) fun i j => .int (i.fmod j)) modD := fun B H x y a b d Q s rx ry e q => by
  unfold modD opI at e
  split at e
  · rename_i i j
    split at e
    · rename_i hij
      have hj : 0 < j := of_decide_eq_true hij
      cases e
      cases rx
      cases ry
      refine ⟨i, j, rfl, rfl, by omega, ?_⟩
      have em : i.fmod j = i % j := Int.fmod_eq_emod_of_nonneg i (by omega)
      show Q (V.int (i.fmod j)) H
      rw [em]
      exact pure_val s q (.int _)
    · cases e
  · cases e
def powOk (i j : Int) : Bool := decide (0 ≤ j) && decide (j ≤ 1000000) && decide (i.natAbs < 2 ^ 64)
/-! comparisons of ints -/
def ltD : D → D → Option D := opI tt2 fun i j => .bool (decide (i < j))
def leD : D → D → Option D := opI tt2 fun i j => .bool (decide (i ≤ j))
def gtD : D → D → Option D := opI tt2 fun i j => .bool (decide (i > j))
def geD : D → D → Option D := opI tt2 fun i j => .bool (decide (i ≥ j))
theorem pure_lt : Pure2 K (rI0 fun i j => .bl (decide (i < j))) ltD := pure_rI0 fun _ i j => .bl _
theorem pure_le : Pure2 K (rI0 fun i j => .bl (decide (i ≤ j))) leD := pure_rI0 fun _ i j => .bl _
theorem pure_gt : Pure2 K (rI0 fun i j => .bl (decide (j < i))) gtD := pure_rI0 fun _ i j => .bl _
theorem pure_ge : Pure2 K (rI0 fun i j => .bl (decide (j ≤ i))) geD := pure_rI0 fun _ i j => .bl _
/-! equality of data -/
mutual
theorem rp_dp : ∀ {v : V} {d : D}, Rp K B v d → d.canLay0 = true → Dp K B v d
  | _, _, .non, _ => .non
  | _, _, .bl b, _ => .bl b
  | _, _, .int i, _ => .int i
  | _, _, .str x, _ => .str x
  | _, _, .lst h _ r, c => .lst (SqL.of h) (rpAll_dp r (by simpa [PyData.canLay0] using c))
  | _, _, .tup h _ r, c => .tup h (rpAll_dp r (by simpa [PyData.canLay0] using c))
  | _, _, .dcx _ _ _, c => by simp [PyData.canLay0] at c
theorem rpAll_dp : ∀ {vs : List V} {ds : List D}, RpAll K B vs ds → PyData.canLayAll0 ds = true → DpAll K B vs ds
  | _, _, .nil, _ => .nil
  | _, _, .cons h r, c => by
    simp only [PyData.canLayAll0, Bool.and_eq_true] at c
    exact .cons (rp_dp h c.1) (rpAll_dp r c.2)
end
def eqD (a b : D) : Option D := if (SeqAt.shaped a && SeqAt.shaped b) = true then some (.bool (PyData.eqv a b)) else none
def neD (a b : D) : Option D := if (SeqAt.shaped a && SeqAt.shaped b) = true then some (.bool (!PyData.eqv a b)) else none
theorem pure_eq : Pure2 K (rEqD K) eqD := fun B H x y a b d Q s rx ry e q => by
  unfold eqD at e
  split at e
  · rename_i h
    rw [Bool.and_eq_true] at h
    cases e
    exact ⟨a, b, rp_dp (rx.mono s) (SeqAt.canLay_of_shaped h.1), rp_dp (ry.mono s) (SeqAt.canLay_of_shaped h.2), h.1, h.2, pure_val s q (.bl _)⟩
  · cases e
theorem pure_ne : Pure2 K (rNeD K) neD := fun B H x y a b d Q s rx ry e q => by
  unfold neD at e
  split at e
  · rename_i h
    rw [Bool.and_eq_true] at h
    cases e
    exact ⟨a, b, rp_dp (rx.mono s) (SeqAt.canLay_of_shaped h.1), rp_dp (ry.mono s) (SeqAt.canLay_of_shaped h.2), h.1, h.2, pure_val s q (.bl _)⟩
  · cases e
end
end Lp

namespace Lp
open PySem PySem.Spec L2
set_option autoImplicit false
section
variable {ax : Ax} {X : Cx} {K : PySem.W.Frag} {W : Wd} {B B' H H' : Hp} {σ : L2.St} {env : Env'}
/-! ### calls of defs -/
theorem run_fnG {k : Nat} {f : Addr} {fd : FuncData} {ps : List Str} {sp : Sp} {Wx : WX} {pins : List (Addr × Obj)} {s : Shared} {Q : VK} {us : List Value} {vs : List V} {args : Args} (F : FnG X.prog X.w X.K X.mg X.base k f fd ps sp) (gd : X.A.guards = some []) (hr : Room k X.A)
    (tk : Takes X Wx) (I : Inv X pins σ H s) (hb : BindsTo s fd args (ps.zip us)) (r : Vals vs us) (h : sp vs H Q (fun cls d H' => Wx cls d σ H')) :
    codeAny (model X.prog X.w) X.A (.call (.ref f) args) (fun r s' => match r with
      | .ok (.ret u) => EP X pins σ Q u s'
      | .ok _ => False
      | .error e => X.xe e s') s := by
  refine codeAny_mono (F.run X.A X.stack s H args us vs Q _ gd hr I.env0 hb r h) fun r s' hq => ?_
  cases r with
  | error e => exact tk e s' (XE.of_call I (fun cls d H' z => z) hq)
  | ok fl =>
    cases fl with
    | ret u => exact I.after hq
    | next => exact False.elim hq
    | brk => exact False.elim hq
    | cont => exact False.elim hq
theorem wpAny_callG {k : Nat} {f : Addr} {fd : FuncData} {ps : List Str} {sp : Sp} {Wx : WX} {pins : List (Addr × Obj)} {s : Shared} {Q : VK} {us vals : List Value} {vs : List V} {kws : List (Str × Value)} (F : FnG X.prog X.w X.K X.mg X.base k f fd ps sp) (gd : X.A.guards = some []) (hr : Room k X.A)
    (tk : Takes X Wx) (I : Inv X pins σ H s) (hb : BindsTo s fd ⟨vals, kws⟩ (ps.zip us)) (r : Vals vs us) (h : sp vs H Q (fun cls d H' => Wx cls d σ H')) :
    wpAny (model X.prog X.w) X.A (call (.ref f) vals kws) (EP X pins σ Q) X.xe s := by
  refine wpAny_call (codeAny_mono (run_fnG F gd hr tk I hb r h) fun r s' hq => ?_)
  cases r with
  | error e => exact hq
  | ok fl =>
    cases fl with
    | ret u => exact hq
    | next => exact False.elim hq
    | brk => exact False.elim hq
    | cont => exact False.elim hq
theorem pe_callG {k : Nat} {f : Addr} {fd : FuncData} {ps : List Str} {sp : Sp} {Wx : WX} {x : Str} {p pos : Pos} {e : Expr} {es : List Expr} {t : TA} (F : FnG X.prog X.w X.K X.mg X.base k f fd ps sp) (gd : X.A.guards = some []) (hr : Room k X.A) (tk : Takes X Wx) (hm : X.mg x = some (.ref f)) (hk : PySem.W.keepIn X.K (.ref f) = true)
    (hb : Binds X.K fd ps []) (ha : PA X (e :: es) t) (hg : Gl X x := by rfl) (hdb : (x == ("__debug__" : Str)) = false := by decide) (he : starEach (e :: es) X.env = (false, eval e X.env) :: starEach es X.env := by rfl) (hpl : (backTo pos (starEach es X.env)).any (·.1) = false := by rfl) :
    PE X (.Call (.Name x p) (e :: es) [] pos) (fun σ H Q => t σ H fun vs H1 => sp vs H1 Q (fun cls d H' => Wx cls d σ H')) := by
  refine ⟨fun pins s σ H Q I h => wpAny_Call_Name_kw (ld_glob I hg hm ?_ hdb)⟩
  refine PySem.W.callWith_K (h₀ := X.base) I.ok.mod.kin hk (thn (ha.run pos pins s σ H _ I h) fun us s1 ⟨vs, H1, I1, r, q⟩ => ⟨I1.kIn, ?_⟩) he hpl
  have hl : (us ++ ([] : List Value)).length = ps.length := by rw [List.append_nil, ← r.length]; exact F.len _ _ _ _ q
  have hb' := hb s1 us I1.kIn hl
  rw [List.append_nil] at hb'
  exact wpAny_callG F gd hr tk I1 hb' r q
theorem pe_callG0 {k : Nat} {f : Addr} {fd : FuncData} {sp : Sp} {Wx : WX} {x : Str} {p pos : Pos} (F : FnG X.prog X.w X.K X.mg X.base k f fd [] sp) (gd : X.A.guards = some []) (hr : Room k X.A) (tk : Takes X Wx) (hm : X.mg x = some (.ref f)) (hk : PySem.W.keepIn X.K (.ref f) = true)
    (hb : Binds X.K fd [] []) (hg : Gl X x := by rfl) (hdb : (x == ("__debug__" : Str)) = false := by decide) :
    PE X (.Call (.Name x p) [] [] pos) (fun σ H Q => sp [] H Q (fun cls d H' => Wx cls d σ H')) := by
  refine ⟨fun pins s σ H Q I h => wpAny_Call_Name_kw (ld_glob I hg hm ?_ hdb)⟩
  exact PySem.W.callWith_K0 I.kIn hk (wpAny_callG F gd hr tk I (hb s [] I.kIn rfl) .nil h)
/-- a call by keywords alone: each parameter once, is the places of the parameters in the call -/
theorem pe_callGK {k : Nat} {f : Addr} {fd : FuncData} {ps ks : List Str} {sp : Sp} {Wx : WX} {x : Str} {p pos : Pos} {kws : List Keyword} {t : TA} (is : List Nat) (F : FnG X.prog X.w X.K X.mg X.base k f fd ps sp) (gd : X.A.guards = some []) (hr : Room k X.A) (tk : Takes X Wx) (hm : X.mg x = some (.ref f)) (hk : PySem.W.keepIn X.K (.ref f) = true)
    (hb : ∀ (s : Shared) (ws : List Value), ws.length = ks.length → BindsTo s fd ⟨[], ks.zip ws⟩ (ps.zip (is.map fun i => ws.getD i .none))) (ha : PK X kws t) (hg : Gl X x := by rfl) (hdb : (x == ("__debug__" : Str)) = false := by decide)
    (hall : (backToKw pos (keywordEach kws X.env)).all (·.1.isSome) = true := by rfl) (hks : (backToKw pos (keywordEach kws X.env)).filterMap (·.1) = ks := by rfl)
    (hpl : ((backTo pos (starEach [] X.env)).any (·.1) || (backToKw pos (keywordEach kws X.env)).any (·.1.isNone)) = false := by rfl) :
    PE X (.Call (.Name x p) [] kws pos) (fun σ H Q => t σ H fun vs H1 => vs.length = ks.length ∧ sp (is.map fun i => vs.getD i .non) H1 Q (fun cls d H' => Wx cls d σ H')) := by
  refine ⟨fun pins s σ H Q I h => wpAny_Call_Name_kw (ld_glob I hg hm ?_ hdb)⟩
  refine PySem.W.callWith_KW0 (h₀ := X.base) I.ok.mod.kin hk hall ?_ hpl
  refine thn (ha.run pos pins s σ H _ I h) fun ws s1 ⟨zs, H1, I1, r, l, q⟩ => ⟨I1.kIn, ?_⟩
  rw [hks]
  refine wpAny_callG F gd hr tk I1 (hb s1 ws (r.length.symm.trans l)) ?_ q
  have gt : ∀ i, RelV (zs.getD i .non) (ws.getD i .none) := fun i => by
    rw [List.getD_eq_getElem?_getD, List.getD_eq_getElem?_getD]
    cases e : zs[i]? with
    | none => rw [r.none_of e]; rfl
    | some z => obtain ⟨u, eu, ru⟩ := r.get e; rw [eu]; exact ru
  show Vals (is.map fun i => zs.getD i .non) (is.map fun i => ws.getD i .none)
  induction is with
  | nil => exact .nil
  | cons i is _ =>
    have : ∀ js : List Nat, Vals (js.map fun i => zs.getD i .non) (js.map fun i => ws.getD i .none) := by
      intro js
      induction js with
      | nil => exact .nil
      | cons j js ih => exact .cons (gt j) ih
    exact this (i :: is)
/-- keywords' values -/
def MK (ax : Ax) (X : Cx) (kws : List Keyword) (f : M (List D)) : Prop := ∃ t, PK X kws t ∧ SA X.K ax t f
theorem mk_nil : MK ax X [] mNil := ⟨_, pk_nil, sa_nil⟩
theorem mk_cons {e : Expr} {f : M D} {kws : List Keyword} {r : M (List D)} {nm : Option Str} {kpos : Pos} (ha : MD ax X e f) (hr : MK ax X kws r) : MK ax X (⟨nm, e, kpos⟩ :: kws) (mCons f r) := let ⟨_, p, s⟩ := ha; let ⟨_, p', s'⟩ := hr; ⟨_, pk_cons p p', sa_cons s s'⟩
def mPerm (n : Nat) (is : List Nat) (fa : M (List D)) : M (List D) := fun e => (fa e).bind fun ds e => if ds.length = n then .ok (is.map fun i => ds.getD i .none) e else .stuck
theorem sa_perm {ta : TA} {fa : M (List D)} {n : Nat} (is : List Nat) (h : SA K ax ta fa) : SA K ax (fun σ H Q => ta σ H fun vs H1 => vs.length = n ∧ Q (is.map fun i => vs.getD i .non) H1) (mPerm n is fa) := fun W B H σ env Q si gd =>
  h W B H σ env _ si (Good.bind gd fun ds e vs B1 H1 s1 si1 r1 g1 => by
    by_cases hn : ds.length = n
    · rw [if_pos hn] at g1
      refine ⟨by rw [r1.length]; exact hn, g1 _ B1 H1 (fun _ _ e => e) si1 ?_⟩
      have gt : ∀ i, Rp K B1 (vs.getD i .non) (ds.getD i .none) := fun i => by
        rw [List.getD_eq_getElem?_getD, List.getD_eq_getElem?_getD]
        cases e : vs[i]? with
        | none =>
          have : ds[i]? = none := List.getElem?_eq_none (by have := List.getElem?_eq_none_iff.mp e; rw [r1.length] at this; exact this)
          rw [this]; exact .non
        | some z => obtain ⟨u, eu, ru⟩ := r1.get e; rw [eu]; exact ru
      have : ∀ js : List Nat, RpAll K B1 (js.map fun i => vs.getD i .non) (js.map fun i => ds.getD i .none) := by
        intro js
        induction js with
        | nil => exact .nil
        | cons j js ih => exact .cons (gt j) ih
      exact this is
    · rw [if_neg hn] at g1; exact g1.elim)
theorem mo_call {k : Nat} {f : Addr} {fd : FuncData} {ps : List Str} {x : Str} {p pos : Pos} {e : Expr} {es : List Expr} {fa : M (List D)} {g : Env' → Out Sl} (F : FnG X.prog X.w X.K X.mg X.base k f fd ps (spM X.K ax.ec ps.length [] g)) (hn : ∀ e, e.length ≠ ps.length → g e = .stuck) (gd : X.A.guards = some []) (hr : Room k X.A) (tk : Takes X ax.Wx) (hm : X.mg x = some (.ref f)) (hk : PySem.W.keepIn X.K (.ref f) = true)
    (hb : Binds X.K fd ps []) (ha : MA ax X (e :: es) fa) (hg : Gl X x := by rfl) (hdb : (x == ("__debug__" : Str)) = false := by decide) (he : starEach (e :: es) X.env = (false, eval e X.env) :: starEach es X.env := by rfl) (hpl : (backTo pos (starEach es X.env)).any (·.1) = false := by rfl) :
    MO ax X (.Call (.Name x p) (e :: es) [] pos) (mCall g fa) := let ⟨_, p', s'⟩ := ha; ⟨_, pe_callG F gd hr tk hm hk hb p' hg hdb he hpl, so_call hn s'⟩
theorem mo_callIO {k : Nat} {f : Addr} {fd : FuncData} {ps : List Str} {x y : Str} {p py pos : Pos} {es : List Expr} {fa : M (List D)} {g : Env' → Out Sl} (i : Nat) (F : FnG X.prog X.w X.K X.mg X.base k f fd ps (spM X.K ax.ec ps.length [0] g)) (hn : ∀ e, e.length ≠ ps.length → g e = .stuck) (h0 : 0 < ps.length) (gd : X.A.guards = some []) (hr : Room k X.A) (tk : Takes X ax.Wx) (hm : X.mg x = some (.ref f)) (hk : PySem.W.keepIn X.K (.ref f) = true)
    (hb : Binds X.K fd ps []) (ha : MA ax X es fa) (hN : X.N[i]? = some y := by rfl) (hv : Vis X.env.scope y := by first | exact Or.inl rfl | exact Or.inr (Or.inl rfl) | exact Or.inr (Or.inr rfl)) (hg : Gl X x := by rfl) (hd2 : (y == ("__debug__" : Str)) = false := by decide) (hcd : (y == ("__classdict__" : Str)) = false := by decide)
    (hdb : (x == ("__debug__" : Str)) = false := by decide) (he : starEach (.Name y py :: es) X.env = (false, eval (.Name y py) X.env) :: starEach es X.env := by rfl) (hpl : (backTo pos (starEach es X.env)).any (·.1) = false := by rfl) :
    MO ax X (.Call (.Name x p) (.Name y py :: es) [] pos) (mCallIO i g fa) := let ⟨_, p', s'⟩ := ha; ⟨_, pe_callG F gd hr tk hm hk hb (pa_cons (pe_var hN hv hd2 hcd) p' he) hg hdb he hpl, so_callIO hn h0 s'⟩
theorem mo_callK {k : Nat} {f : Addr} {fd : FuncData} {ps ks : List Str} {x : Str} {p pos : Pos} {kws : List Keyword} {fa : M (List D)} {g : Env' → Out Sl} (is : List Nat) (F : FnG X.prog X.w X.K X.mg X.base k f fd ps (spM X.K ax.ec ps.length [] g)) (hn : ∀ e, e.length ≠ ps.length → g e = .stuck) (gd : X.A.guards = some []) (hr : Room k X.A) (tk : Takes X ax.Wx) (hm : X.mg x = some (.ref f)) (hk : PySem.W.keepIn X.K (.ref f) = true)
    (hb : ∀ (s : Shared) (ws : List Value), ws.length = ks.length → BindsTo s fd ⟨[], ks.zip ws⟩ (ps.zip (is.map fun i => ws.getD i .none))) (ha : MK ax X kws fa) (hg : Gl X x := by rfl) (hdb : (x == ("__debug__" : Str)) = false := by decide)
    (hall : (backToKw pos (keywordEach kws X.env)).all (·.1.isSome) = true := by rfl) (hks : (backToKw pos (keywordEach kws X.env)).filterMap (·.1) = ks := by rfl)
    (hpl : ((backTo pos (starEach [] X.env)).any (·.1) || (backToKw pos (keywordEach kws X.env)).any (·.1.isNone)) = false := by rfl) :
    MO ax X (.Call (.Name x p) [] kws pos) (mCall g (mPerm ks.length is fa)) := by
  obtain ⟨t, p', s'⟩ := ha
  refine ⟨_, pe_callGK is F gd hr tk hm hk hb p' hg hdb hall hks hpl, ?_⟩
  have z := so_call (n := ps.length) (g := g) hn (sa_perm (n := ks.length) is s')
  refine fun W B H σ env Q si gd => ?_
  exact z W B H σ env Q si gd
end
end Lp

namespace Lp
open PySem PySem.Spec L2
set_option autoImplicit false
section
variable {ax : Ax} {X : Cx} {K : PySem.W.Frag} {W : Wd} {B B' H H' : Hp} {σ : L2.St} {env : Env'} {pos : Pos} {a b c e : Expr} {f h : M D}
/-! ### displays -/
theorem line_of {n : Nat} (h : n ≤ 16777216) : n ≤ sizeLine := by rw [sizeLine_eq]; exact h
theorem SI.newOwnL (si : SI K W B H σ env) {L : Addr} (hL : H L = none) {vs : List V} {ds : List D} (r : RpAll K B vs ds) (z : vs.length ≤ sizeLine) : SIV K W B (upd H L (.lst vs)) σ env (.ref L) (.own ds) := by
  obtain ⟨us, e, _, w⟩ := (si.newOwn hL).writeV
  have q := w vs ds r z
  rw [upd_upd] at q
  exact q
def mLst (fa : M (List D)) : M Sl := fun e => (fa e).bind fun ds e => if ds.length ≤ 16777216 then .ok (.own ds) e else .stuck
theorem so_lst {ta : TA} {fa : M (List D)} (h : SA K ax ta fa) : SO K ax (tLst ta) (mLst fa) := fun W B H σ env Q si gd =>
  h W B H σ env _ si (GoodO.bind gd fun ds e vs B1 H1 s1 si1 r1 g1 => by
    by_cases z : ds.length ≤ 16777216
    · rw [if_pos z] at g1
      have zv : vs.length ≤ sizeLine := line_of (by rw [r1.length]; exact z)
      exact ⟨zv, fun p hp => g1 _ B1 _ (fun _ _ e => e) (si1.newOwnL hp r1 zv)⟩
    · rw [if_neg z] at g1; exact g1.elim)
def mTup (fa : M (List D)) : M D := fun e => (fa e).bind fun ds e => if ds.length ≤ 16777216 then .ok (.tuple ds) e else .stuck
theorem sd_tup {ta : TA} {fa : M (List D)} (h : SA K ax ta fa) : SD K ax (tTup ta) (mTup fa) := fun W B H σ env Q si gd =>
  h W B H σ env _ si (Good.bind gd fun ds e vs B1 H1 s1 si1 r1 g1 => by
    by_cases z : ds.length ≤ 16777216
    · rw [if_pos z] at g1
      have zv : vs.length ≤ sizeLine := line_of (by rw [r1.length]; exact z)
      refine ⟨zv, fun p hp => g1 _ _ _ (grow_new si1.same hp).b (si1.more (grow_new si1.same hp)) (.tup (SqT.of upd_same) zv (r1.mono (grow_new si1.same hp).b))⟩
    · rw [if_neg z] at g1; exact g1.elim)
theorem mo_lst {es : List Expr} {fa : M (List D)} (h : MA ax X es fa) : MO ax X (.List es pos) (mLst fa) := let ⟨_, p, s⟩ := h; ⟨_, pe_lst p, so_lst s⟩
theorem md_tup {es : List Expr} {fa : M (List D)} {n : Nat} (h : MA ax X es fa) : MD ax X (.Tuple es n pos) (mTup fa) := let ⟨_, p, s⟩ := h; ⟨_, pe_tup p, sd_tup s⟩
/-! ### what is laid new by a built-in: a list of one's own -/
def FreshN (K : PySem.W.Frag) (r : List V → Hp → VK → Prop) (g : List D → Option (List D)) : Prop := ∀ (B H : Hp) (xs : List V) (as ds : List D) (Q : VK), Same B H → RpAll K B xs as → g as = some ds →
  (∀ vs p B' H', Grow B H [] B' H' → RpAll K B' vs ds → vs.length ≤ sizeLine → H' p = none → Q (.ref p) (upd H' p (.lst vs))) → r xs H Q
def mBO (g : List D → Option (List D)) (f : M (List D)) : M Sl := fun e => (f e).bind fun xs e => match g xs with
  | some ds => .ok (.own ds) e
  | none => .stuck
theorem so_cb {r : List V → Hp → VK → Prop} {g : List D → Option (List D)} {ta : TA} {fa : M (List D)} (p : FreshN K r g) (h : SA K ax ta fa) : SO K ax (tCB r ta) (mBO g fa) := fun W B H σ env Q si gd =>
  h W B H σ env _ si (GoodO.bind gd fun ds e vs B1 H1 s1 si1 r1 g1 => by
    cases q : g ds with
    | none => rw [q] at g1; exact g1.elim
    | some ys =>
      rw [q] at g1
      exact p B1 H1 vs ds ys Q si1.same r1 q fun us L B2 H2 gr ru z hL => g1 _ B2 _ gr.b ((si1.more gr).newOwnL hL ru z))
theorem mo_b {x : Str} {id : String} {r : List V → Hp → VK → Prop} {g : List D → Option (List D)} {e : Expr} {es : List Expr} {fa : M (List D)} {p : Pos} (hc : CallR X (.builtin id) r) (pu : FreshN X.K r g) (hm : X.mg x = none) (hv : bootBuiltins x = some (.builtin id)) (ha : MA ax X (e :: es) fa) (hg : Gl X x := by rfl)
    (hn : x ≠ "__name__" := by decide) (hdb : (x == ("__debug__" : Str)) = false := by decide) (hs : starEach (e :: es) X.env = (false, eval e X.env) :: starEach es X.env := by rfl) (hpl : (backTo pos (starEach es X.env)).any (·.1) = false := by rfl) :
    MO ax X (.Call (.Name x p) (e :: es) [] pos) (mBO g fa) := let ⟨_, p', s'⟩ := ha; ⟨_, pe_callB hc hg hm hv p' hn hdb hs hpl, so_cb pu s'⟩
theorem mo_ty {x : Str} {T : String} {r : List V → Hp → VK → Prop} {g : List D → Option (List D)} {e : Expr} {es : List Expr} {fa : M (List D)} {p : Pos} (hc : CallR X (.type T) r) (pu : FreshN X.K r g) (hm : X.mg x = none) (hv : bootBuiltins x = some (.type T)) (ha : MA ax X (e :: es) fa) (hg : Gl X x := by rfl)
    (hn : x ≠ "__name__" := by decide) (hdb : (x == ("__debug__" : Str)) = false := by decide) (hs : starEach (e :: es) X.env = (false, eval e X.env) :: starEach es X.env := by rfl) (hpl : (backTo pos (starEach es X.env)).any (·.1) = false := by rfl) :
    MO ax X (.Call (.Name x p) (e :: es) [] pos) (mBO g fa) := let ⟨_, p', s'⟩ := ha; ⟨_, pe_callTy hc hg hm hv p' hn hdb hs hpl, so_cb pu s'⟩
/-! ### built-ins on data -/
def lenD : List D → Option D
  | [.list ds] => some (.int ds.length)
  | [.tuple ds] => some (.int ds.length)
  | [.str x] => if x.length ≤ 16777216 then some (.int x.length) else none
  | _ => none
theorem pure_len : PureN K (fun xs H Q => ∃ x n, xs = [x] ∧ LenV K x H n ∧ Q (.int n) H) lenD := fun B H xs as d Q s r e q => by
  unfold lenD at e
  split at e
  · cases e
    obtain ⟨v, rfl, rv⟩ := r.one
    cases rv with
    | lst h z rs => exact ⟨_, _, rfl, .inl ⟨_, SqL.of (s _ _ h), rs.length.symm⟩, pure_val s q (.int _)⟩
  · cases e
    obtain ⟨v, rfl, rv⟩ := r.one
    cases rv with
    | tup h z rs => exact ⟨_, _, rfl, .inr ⟨_, Same.sqT s h, rs.length.symm⟩, pure_val s q (.int _)⟩
  · split at e
    · rename_i hz
      cases e
      obtain ⟨v, rfl, rv⟩ := r.one
      cases rv
      exact ⟨_, _, rfl, ⟨line_of hz, rfl⟩, pure_val s q (.int _)⟩
    · cases e
  · cases e
def absD : List D → Option D
  | [.int i] => some (.int (if i < 0 then -i else i))
  | _ => none
theorem pure_abs : PureN K (fun xs H Q => ∃ i, xs = [.int i] ∧ Q (.int (if i < 0 then -i else i)) H) absD := fun B H xs as d Q s r e q => by
  unfold absD at e
  split at e
  · cases e
    obtain ⟨v, rfl, rv⟩ := r.one
    cases rv
    exact ⟨_, rfl, pure_val s q (.int _)⟩
  · cases e
def intD : List D → Option D
  | [.int i] => some (.int i)
  | [.bool b] => some (.int (if b then 1 else 0))
  | _ => none
theorem pure_int : PureN K (fun xs H Q => (∃ i, xs = [.int i] ∧ Q (.int i) H) ∨ ∃ k, xs = [.bl k] ∧ Q (.int (if k then 1 else 0)) H) intD := fun B H xs as d Q s r e q => by
  unfold intD at e
  split at e
  · cases e
    obtain ⟨v, rfl, rv⟩ := r.one
    cases rv
    exact .inl ⟨_, rfl, pure_val s q (.int _)⟩
  · cases e
    obtain ⟨v, rfl, rv⟩ := r.one
    cases rv
    exact .inr ⟨_, rfl, pure_val s q (.int _)⟩
  · cases e
def max2D : List D → Option D
  | [.int i, .int j] => some (.int (if j > i then j else i))
  | _ => none
theorem pure_max2 : PureN K (fun xs H Q => ∃ i j, xs = [.int i, .int j] ∧ Q (.int (if j > i then j else i)) H) max2D := fun B H xs as d Q s r e q => by
  unfold max2D at e
  split at e
  · cases e
    obtain ⟨v, u, rfl, rv, ru⟩ := r.two
    cases rv
    cases ru
    exact ⟨_, _, rfl, pure_val s q (.int _)⟩
  · cases e
def min2D : List D → Option D
  | [.int i, .int j] => some (.int (if j < i then j else i))
  | _ => none
theorem pure_min2 : PureN K (fun xs H Q => ∃ i j, xs = [.int i, .int j] ∧ Q (.int (if j < i then j else i)) H) min2D := fun B H xs as d Q s r e q => by
  unfold min2D at e
  split at e
  · cases e
    obtain ⟨v, u, rfl, rv, ru⟩ := r.two
    cases rv
    cases ru
    exact ⟨_, _, rfl, pure_val s q (.int _)⟩
  · cases e
def boolsOf : List D → Option (List Bool)
  | [] => some []
  | .bool b :: r => (boolsOf r).map (b :: ·)
  | _ :: _ => none
theorem boolsOf_rp : ∀ {ds : List D} {bs : List Bool} {vs : List V}, boolsOf ds = some bs → RpAll K B vs ds → vs = bs.map V.bl
  | [], bs, vs, e, r => by
    cases r
    cases e
    rfl
  | d :: ds, bs, vs, e, r => by
    cases r with
    | cons h r =>
      cases h with
      | bl b =>
        unfold boolsOf at e
        obtain ⟨cs, e1, e2⟩ := Option.map_eq_some_iff.mp e
        subst e2
        rw [boolsOf_rp e1 r]; rfl
      | _ => simp [boolsOf] at e
def allD : List D → Option D
  | [.list ds] => (boolsOf ds).map fun bs => .bool (bs.all id)
  | _ => none
def anyD : List D → Option D
  | [.list ds] => (boolsOf ds).map fun bs => .bool (bs.any id)
  | _ => none
theorem pure_all : PureN K (rAll K) allD := fun B H xs as d Q s r e q => by
  unfold allD at e
  split at e
  · obtain ⟨bs, e1, e2⟩ := Option.map_eq_some_iff.mp e
    subst e2
    obtain ⟨v, rfl, rv⟩ := r.one
    cases rv with
    | lst h z rs => exact ⟨_, bs, rfl, SqL.of (by rw [← boolsOf_rp e1 rs]; exact s _ _ h), pure_val s q (.bl _)⟩
  · cases e
theorem pure_any : PureN K (rAny K) anyD := fun B H xs as d Q s r e q => by
  unfold anyD at e
  split at e
  · obtain ⟨bs, e1, e2⟩ := Option.map_eq_some_iff.mp e
    subst e2
    obtain ⟨v, rfl, rv⟩ := r.one
    cases rv with
    | lst h z rs => exact ⟨_, bs, rfl, SqL.of (by rw [← boolsOf_rp e1 rs]; exact s _ _ h), pure_val s q (.bl _)⟩
  · cases e
/-- list(x) -/
def listF : List D → Option (List D)
  | [d] => seqD d
  | _ => none
theorem fresh_list : FreshN K (fun xs H Q => ∃ p ys, xs = [.ref p] ∧ (SqL K H p ys ∨ SqT K H p ys) ∧ ∀ l, H l = none → Q (.ref l) (upd H l (.lst ys))) listF := fun B H xs as ds Q s r e q => by
  unfold listF at e
  split at e
  · obtain ⟨v, rfl, rv⟩ := r.one
    cases rv with
    | lst h z rs => cases e; exact ⟨_, _, rfl, .inl (SqL.of (s _ _ h)), fun l hl => q _ l B H (grow_same s) rs z hl⟩
    | tup h z rs => cases e; exact ⟨_, _, rfl, .inr (Same.sqT s h), fun l hl => q _ l B H (grow_same s) rs z hl⟩
    | _ => cases e
  · cases e
/-- tuple(x) -/
def tupleD : List D → Option D
  | [d] => (seqD d).map .tuple
  | _ => none
theorem pure_tuple : PureN K (fun xs H Q => ∃ p ys, xs = [.ref p] ∧ ((SqL K H p ys ∧ ∀ l, H l = none → Q (.ref l) (upd H l (.tup ys))) ∨ (SqT K H p ys ∧ Q (.ref p) H))) tupleD := fun B H xs as d Q s r e q => by
  unfold tupleD at e
  split at e
  · obtain ⟨v, rfl, rv⟩ := r.one
    obtain ⟨ds, e1, e2⟩ := Option.map_eq_some_iff.mp e
    subst e2
    cases rv with
    | lst h z rs => cases e1; exact ⟨_, _, rfl, .inl ⟨SqL.of (s _ _ h), fun l hl => pure_tup s q rs z hl⟩⟩
    | tup h z rs => cases e1; exact ⟨_, _, rfl, .inr ⟨Same.sqT s h, q _ B H (grow_same s) (.tup h z rs)⟩⟩
    | _ => cases e1
  · cases e
/-! ### subscripts -/
def idxD : D → D → Option D
  | .list ds, .int i => atI ds i
  | .tuple ds, .int i => atI ds i
  | _, _ => none
theorem RpAll.atI {vs : List V} {ds : List D} {i : Int} {d : D} (r : RpAll K B vs ds) (e : L2.atI ds i = some d) : ∃ v, L2.atI vs i = some v ∧ Rp K B v d := by
  unfold L2.atI at e ⊢
  rw [← r.length] at e
  cases q : ixN vs.length i with
  | none => rw [q] at e; cases e
  | some j => rw [q] at e; exact r.get' e
theorem pure_idx : Pure2 K (rIx K) idxD := fun B H x y a b d Q s rx ry e q => by
  unfold idxD at e
  split at e
  · cases ry
    cases rx with
    | lst h z rs =>
      obtain ⟨v, ev, rv⟩ := rs.atI e
      exact .inl ⟨_, _, _, v, rfl, rfl, SqL.of (s _ _ h), ev, pure_val s q rv⟩
  · cases ry
    cases rx with
    | tup h z rs =>
      obtain ⟨v, ev, rv⟩ := rs.atI e
      exact .inr (.inl ⟨_, _, _, v, rfl, rfl, Same.sqT s h, ev, pure_val s q rv⟩)
  · cases e
theorem md_ix (ha : MD ax X a f) (hb : MD ax X b h) (hs : PlainIx b) : MD ax X (.Subscript a b pos) (mOp idxD f h) := let ⟨_, p, s⟩ := ha; let ⟨_, p', s'⟩ := hb; ⟨_, pe_ix ix_seq p p' hs, sd_op pure_idx s s'⟩
/-! ### isinstance -/
inductive Ty where
  | int | bool | str | list | tuple | dict
def Ty.nm : Ty → String
  | .int => "int" | .bool => "bool" | .str => "str" | .list => "list" | .tuple => "tuple" | .dict => "dict"
def tyD : D → String
  | .none => "NoneType" | .bool _ => "bool" | .int _ => "int" | .str _ => "str" | .list _ => "list" | .tuple _ => "tuple" | .dict _ => "dict"
def isi : Ty → D → Bool
  | .int, .int _ => true | .int, .bool _ => true | .bool, .bool _ => true | .str, .str _ => true | .list, .list _ => true | .tuple, .tuple _ => true | .dict, .dict _ => true
  | _, _ => false
theorem kit_isi (T : Ty) (d : D) : PySem.W.kitOne K (.type (tyD d)) (.type T.nm) = some (isi T d) := by
  refine kit_ty ?_
  cases T <;> cases d <;> (simp only [tyD, Ty.nm, isi]; decide +kernel)
def isDc : D → Bool
  | .dict _ => true
  | _ => false
theorem Rp.tyX {v : V} {d : D} (r : Rp K B v d) (s : Same B H) (nd : isDc d = false) : TyX K H v (.type (tyD d)) := by
  cases r with
  | non => exact .base .non
  | bl b => exact .base (.bl b)
  | int i => exact .base (.int i)
  | str x => exact .base (.str x)
  | lst h _ _ => exact .base (.lst (s _ _ h))
  | tup h _ _ =>
    rcases Same.sqT s h with (h | ⟨o, h⟩) | ⟨o, its, n, hk, hc, _⟩
    · exact .base (.tup h)
    · exact .fTuple h
    · exact .kTuple hk hc
  | dcx _ _ _ => exact absurd nd (by simp [isDc])
def mIsi (T : Ty) (f : M D) : M D := fun e => (f e).bind fun d e => if isDc d = false then .ok (.bool (isi T d)) e else .stuck
theorem sd_isi {te : TE} (T : Ty) (h : SD K ax te f) : SD K ax (tCB (rIsi K) (tCons te (tCons (tC (.ty T.nm)) tNil))) (mIsi T f) := fun W B H σ env Q si gd =>
  h W B H σ env _ si (Good.bind gd fun d e v B1 H1 s1 si1 r1 g1 => by
    by_cases nd : isDc d = false
    · rw [if_pos nd] at g1
      exact ⟨v, .ty T.nm, _, _, isi T d, rfl, .ty _, r1.tyX si1.same nd, kit_isi T d, g1 _ B1 H1 (fun _ _ e => e) si1 (.bl _)⟩
    · rw [if_neg nd] at g1
      exact g1.elim)
theorem md_isi {x : Str} {p p2 : Pos} (T : Ty) (hm : X.mg "isinstance" = none) (hmT : X.mg x = none) (hv : bootBuiltins x = some (.type T.nm)) (ha : MD ax X a f) (hg : Gl X "isinstance" := by rfl) (hgT : Gl X x := by rfl) (hn : x ≠ "__name__" := by decide) (hdb : (x == ("__debug__" : Str)) = false := by decide)
    (hs : starEach (a :: [.Name x p2]) X.env = (false, eval a X.env) :: starEach [.Name x p2] X.env := by rfl) (hpl : (backTo pos (starEach [.Name x p2] X.env)).any (·.1) = false := by rfl) :
    MD ax X (.Call (.Name "isinstance" p) [a, .Name x p2] [] pos) (mIsi T f) := let ⟨_, p', s'⟩ := ha; ⟨_, pe_callB call_isi hg hm (by decide +kernel) (pa_cons p' (pa_cons (pe_bltn (v := .ty T.nm) hgT hmT hv rfl hn hdb) pa_nil) hs) (by decide) (by decide) hs hpl, sd_isi T s'⟩
/-! ### repr -/
def reprOk (d : D) : Bool := d.showable && !d.hasDict && d.canLay0 && decide (d.depth ≤ 100) && decide (d.shown.length ≤ 16777216)
def reprD : List D → Option D
  | [d] => if reprOk d = true then some (.str d.shown) else none
  | _ => none
def rRepr (K : PySem.W.Frag) : List V → Hp → VK → Prop := fun xs H Q => ∃ x d, xs = [x] ∧ Dp K H x d ∧ reprOk d = true ∧ Q (.str d.shown) H
theorem call_repr (gd : X.A.guards = some []) (hu : X.A.units + 110 < cLine) : CallR X (.builtin "repr") (rRepr X.K) := by
  intro pins s σ H xs us Q I r h
  obtain ⟨x, d, rfl, hd, ok, q⟩ := h
  unfold reprOk at ok
  simp only [Bool.and_eq_true, Bool.not_eq_true', decide_eq_true_eq] at ok
  obtain ⟨⟨⟨⟨h1, h2⟩, h3⟩, h4⟩, h5⟩ := ok
  have h5' := line_of h5
  cases r with
  | cons ru rr =>
    cases rr
    rename_i u
    cases d with
    | none => cases hd; cases ru; exact PySem.P.repr_of_none ⟨.str "None", H, I.tok _, ⟨_, rfl⟩, q⟩
    | bool b => cases hd; cases ru; exact PySem.P.repr_of_bool ⟨.str (if b then "True" else "False"), H, I.tok _, ⟨_, rfl⟩, q⟩
    | int i => cases hd; obtain ⟨t, rfl⟩ := ru; exact PySem.P.repr_of_int (of_decide_eq_true h1) ⟨.str (toString i), H, I.tok _, ⟨_, rfl⟩, q⟩
    | str y => cases hd; obtain ⟨t, rfl⟩ := ru; exact PySem.P.repr_of_str ⟨.str (reprText y), H, I.tok _, ⟨_, rfl⟩, q⟩ h5'
    | dict kvs => cases hd
    | list ds =>
      obtain ⟨as, rd⟩ := Dp.reads I _ _ u hd ru
      cases hd
      cases ru
      exact repr_of_reads' rd h1 (fun z => by rw [h2] at z; cases z) gd (by omega) (fun _ _ e => e) (fun h' u tk k => ⟨.str _, H, I.kept k, ⟨_, rfl⟩, q⟩) h5'
    | tuple ds =>
      obtain ⟨as, rd⟩ := Dp.reads I _ _ u hd ru
      cases hd
      cases ru
      exact repr_of_reads' rd h1 (fun z => by rw [h2] at z; cases z) gd (by omega) (fun _ _ e => e) (fun h' u tk k => ⟨.str _, H, I.kept k, ⟨_, rfl⟩, q⟩) h5'
theorem pure_repr : PureN K (rRepr K) reprD := fun B H xs as d Q s r e q => by
  unfold reprD at e
  split at e
  · rename_i d'
    split at e
    · rename_i ok
      cases e
      obtain ⟨v, rfl, rv⟩ := r.one
      have c : d'.canLay0 = true := by
        unfold reprOk at ok
        simp only [Bool.and_eq_true] at ok
        exact ok.1.1.2
      exact ⟨v, d', rfl, rp_dp (rv.mono s) c, ok, pure_val s q (.str _)⟩
    · cases e
  · cases e
end
end Lp

namespace Lp
open PySem PySem.Spec L2
set_option autoImplicit false
section
variable {ax : Ax} {X : Cx} {K : PySem.W.Frag} {W : Wd} {B B' H H' : Hp} {σ : L2.St} {env : Env'} {pos : Pos} {a b e : Expr} {f h : M D} {i : Nat} {io : List Nat}
/-! ### the source of draws -/
theorem SI.deal_at {c : List Int} {b : Int} (si : SI K W B H σ env) (e : env[i]? = some (.deal c b)) : ∃ p q, σ[i]? = some (some (.ref p)) ∧ p ≠ q ∧ H p = some (.lst [.ref q, .int b]) ∧ H q = some (.lst (c.map V.int)) ∧
    (∀ c', SI K W B (upd H q (.lst (c'.map V.int))) σ (env.set i (.deal c' b))) ∧ (∀ b', SI K W B (upd H p (.lst [.ref q, .int b'])) σ (env.set i (.deal c b'))) := by
  obtain ⟨g, F, s⟩ := si
  rcases s.at_ i _ e with z | ⟨v, ev, p, q, rfl, hpF, hqF, hne, op, oq, hp, hq⟩
  · cases z
  have hi : i < env.length := (List.getElem?_eq_some_iff.mp e).1
  have key : ∀ (x : Addr) (o : HO) (sl : Sl), (x = p ∨ x = q) → Mut (some o) → SlV K W B (upd H x o) (F i) (.ref p) sl → SI K W B (upd H x o) σ (env.set i sl) := by
    intro x o sl hx hm hs
    have hxF : x ∈ F i := by rcases hx with rfl | rfl <;> assumption
    have ox : Ownd W B H x := by rcases hx with rfl | rfl <;> assumption
    refine ⟨⟨g.b, fun b u e => ?_, g.fr, fun a u h1 h2 => ?_, fun a h1 => ?_⟩, F, ?_⟩
    · rw [upd_ne (ne_of_none e ox.nb)]; exact g.bh _ _ e
    · have : a ≠ x := fun z => by
        subst z
        rcases ox.fr with y | y
        · rw [y] at h2; cases h2
        · exact h1 y
      rw [upd_ne this]; exact g.keep a u h1 h2
    · by_cases z : a = x
      · rw [z, upd_same]; simp
      · rw [upd_ne z]; exact g.st a h1
    · refine ⟨by rw [List.length_set]; exact s.len, s.pin, fun j y e2 => ?_, fun j a ha => ?_, s.dis⟩
      · by_cases z : j = i
        · subst z
          rw [List.getElem?_set_self hi] at e2
          cases e2
          exact .inr ⟨.ref p, ev, hs⟩
        · rw [List.getElem?_set_ne (Ne.symm z)] at e2
          refine (s.at_ j y e2).grow (fun _ _ h => h) (fun _ _ h => h) fun a ha u hu => ?_
          have : a ≠ x := fun w => z (s.dis j i a ha (w ▸ hxF))
          rw [upd_ne this]; exact hu
      · obtain ⟨m, o'⟩ := s.there j a ha
        refine ⟨?_, o'.nb, o'.fr⟩
        by_cases z : a = x
        · rw [z, upd_same]; exact hm
        · rw [upd_ne z]; exact m
  refine ⟨p, q, ev, hne, hp, hq, fun c' => key q _ _ (.inr rfl) trivial ?_, fun b' => key p _ _ (.inl rfl) trivial ?_⟩
  · exact ⟨p, q, rfl, hpF, hqF, hne, ⟨op.nb, op.fr⟩, ⟨oq.nb, oq.fr⟩, by rw [upd_ne hne]; exact hp, upd_same⟩
  · exact ⟨p, q, rfl, hpF, hqF, hne, ⟨op.nb, op.fr⟩, ⟨oq.nb, oq.fr⟩, upd_same, by rw [upd_ne hne.symm]; exact hq⟩
theorem ints_canLay : ∀ c : List Int, PyData.canLayAll0 (c.map PyData.int) = true
  | [] => by simp [PyData.canLayAll0]
  | i :: c => by simp [PyData.canLayAll0, PyData.canLay0, ints_canLay c]
theorem ints_depth : ∀ c : List Int, PyData.depthAll (c.map PyData.int) ≤ 1
  | [] => by simp [PyData.depthAll]
  | i :: c => by
    have := ints_depth c
    simp only [List.map_cons, PyData.depthAll, PyData.depth]
    omega
theorem ints_shaped (c : List Int) : SeqAt.shaped (.list (c.map PyData.int)) = true := by
  unfold SeqAt.shaped
  rw [Bool.and_eq_true]
  refine ⟨by simp [PyData.canLay0, ints_canLay c], decide_eq_true ?_⟩
  have := ints_depth c
  simp only [PyData.depth]
  omega
theorem ints_dp : ∀ c : List Int, DpAll K H (c.map V.int) (c.map PyData.int)
  | [] => .nil
  | i :: c => .cons (.int i) (ints_dp c)
def mDealNe (i : Nat) : M Bool := fun e => match e[i]? with
  | some (.deal c _) => .ok (!c.isEmpty) e
  | _ => .stuck
theorem eqv_nil (c : List Int) : PyData.eqv (.list (c.map PyData.int)) (.list []) = c.isEmpty := by cases c <;> simp [PyData.eqv, PyData.eqvAll]
theorem st_dealNe : ST K ax (tTest (tOp (rNeD K) (tOp (rIx K) (tVar i) (tC (.int 0))) (tLst tNil))) (mDealNe i) := fun W B H σ env Q si gd => by
  unfold mDealNe at gd
  cases q0 : env[i]? with
  | none => rw [q0] at gd; exact gd.elim
  | some s =>
    rw [q0] at gd
    cases s with
    | deal c b =>
      obtain ⟨p, q, ev, hne, hp, hq, _, _⟩ := si.deal_at q0
      refine ⟨.ref p, ev, .inl ⟨p, _, 0, .ref q, rfl, rfl, SqL.of hp, rfl, Nat.zero_le _, fun o ho => ?_⟩⟩
      have nqo : q ≠ o := ne_of_none hq ho
      refine ⟨.list (c.map PyData.int), .list [], .lst (SqL.of (by rw [upd_ne nqo]; exact hq)) (ints_dp c), .lst (SqL.of upd_same) .nil, ints_shaped c, ints_shaped [], _, rfl, ?_⟩
      rw [eqv_nil]
      exact gd _ B _ (fun _ _ e => e) (si.newH ho) rfl
    | _ => exact gd.elim
/-- deal[0][-1] -/
def mDealLast (i : Nat) : M D := fun e => match e[i]? with
  | some (.deal c _) => match c.getLast? with
    | some x => .ok (.int x) e
    | none => .stuck
  | _ => .stuck
theorem atI_getLast {α : Type} {xs : List α} {x : α} (h : xs.getLast? = some x) : L2.atI xs (-1) = some x := by
  obtain ⟨ys, rfl⟩ := List.getLast?_eq_some_iff.mp h
  exact atI_last ys x
theorem sd_dealLast : SD K ax (tOp (rIx K) (tOp (rIx K) (tVar i) (tC (.int 0))) (tUn (rU fun i => .int (-i)) (tC (.int 1)))) (mDealLast i) := fun W B H σ env Q si gd => by
  unfold mDealLast at gd
  cases q0 : env[i]? with
  | none => rw [q0] at gd; exact gd.elim
  | some s =>
    rw [q0] at gd
    cases s with
    | deal c b =>
      obtain ⟨p, q, ev, hne, hp, hq, _, _⟩ := si.deal_at q0
      dsimp only at gd
      cases q1 : c.getLast? with
      | none => rw [q1] at gd; exact gd.elim
      | some x =>
        rw [q1] at gd
        refine ⟨.ref p, ev, .inl ⟨p, _, 0, .ref q, rfl, rfl, SqL.of hp, rfl, 1, rfl, .inl ⟨q, _, -1, .int x, rfl, rfl, SqL.of hq, atI_getLast (by rw [List.getLast?_map, q1]; rfl), gd _ B H (fun _ _ e => e) si (.int x)⟩⟩⟩
    | _ => exact gd.elim
/-- deal[0].pop() -/
def mDealPop (i : Nat) : M D := fun e => match e[i]? with
  | some (.deal c b) => match c.getLast? with
    | some x => .ok (.int x) (e.set i (.deal c.dropLast b))
    | none => .stuck
  | _ => .stuck
theorem sd_dealPop : SD K ax (tBM0 K "list" rPop (tOp (rIx K) (tVar i) (tC (.int 0)))) (mDealPop i) := fun W B H σ env Q si gd => by
  unfold mDealPop at gd
  cases q0 : env[i]? with
  | none => rw [q0] at gd; exact gd.elim
  | some s =>
    rw [q0] at gd
    cases s with
    | deal c b =>
      obtain ⟨p, q, ev, hne, hp, hq, w, _⟩ := si.deal_at q0
      dsimp only at gd
      cases q1 : c.getLast? with
      | none => rw [q1] at gd; exact gd.elim
      | some x =>
        rw [q1] at gd
        refine ⟨.ref p, ev, .inl ⟨p, _, 0, .ref q, rfl, rfl, SqL.of hp, rfl, .inl ⟨rfl, _, SqL.of hq⟩, q, _, .int x, rfl, rfl, hq, ?_, ?_⟩⟩
        · have h2 : (c.map V.int).getLast? = some (.int x) := by rw [List.getLast?_map, q1]; rfl
          rw [List.getLast?_eq_getElem?] at h2
          exact h2
        · have e2 : (c.map V.int).dropLast = c.dropLast.map V.int := List.map_dropLast.symm
          rw [e2]
          exact gd _ B _ (fun _ _ e => e) (w c.dropLast) (.int x)
    | _ => exact gd.elim
/-- deal[0].append(x // y), x and y names -/
def mDealApp (i j k : Nat) : M Ctl := fun e => match e[i]?, e[j]?, e[k]? with
  | some (.deal c b), some (.dat (.int x)), some (.dat (.int y)) => if (divOk x y && decide (c.length < 16777216)) = true then .ok .next (e.set i (.deal (c ++ [x / y]) b)) else .stuck
  | _, _, _ => .stuck
theorem ss_dealApp {j k : Nat} : SS K ax io (tDrop (tBM K "list" rAppend (tOp (rIx K) (tVar i) (tC (.int 0))) (tCons (tOp (rI CDivW fun i j => .int (i / j)) (tVar j) (tVar k)) tNil))) (mDealApp i j k) := fun W B H σ env E hio si gd => by
  unfold mDealApp at gd
  split at gd
  · rename_i c b x y h1 h2 h3
    split at gd
    · rename_i ok
      rw [Bool.and_eq_true] at ok
      obtain ⟨p, q, ev, hne, hp, hq, w, _⟩ := si.deal_at h1
      obtain ⟨v, ev2, rv⟩ := si.at_dat h2
      obtain ⟨u, ev3, ru⟩ := si.at_dat h3
      cases rv
      cases ru
      have dk := ok.1
      unfold divOk at dk
      rw [Bool.and_eq_true] at dk
      have hc := of_decide_eq_true ok.2
      refine ⟨.ref p, ev, .inl ⟨p, _, 0, .ref q, rfl, rfl, SqL.of hp, rfl, .inl ⟨rfl, _, SqL.of hq⟩, ?_⟩⟩
      refine ⟨_, ev2, _, ev3, x, y, rfl, rfl, ⟨of_decide_eq_true dk.1, of_decide_eq_true dk.2⟩, q, _, _, rfl, rfl, hq, ?_, ?_⟩
      · rw [List.length_map, sizeLine_eq]; exact hc
      · have e2 : c.map V.int ++ [V.int (x / y)] = (c ++ [x / y]).map V.int := by simp
        rw [e2]
        exact gd σ B _ (fun _ _ e => e) (w _)
    · exact gd.elim
  · exact gd.elim
/-- deal[1] -/
def mDealB (i : Nat) : M D := fun e => match e[i]? with
  | some (.deal _ b) => .ok (.int b) e
  | _ => .stuck
theorem sd_dealB : SD K ax (tOp (rIx K) (tVar i) (tC (.int 1))) (mDealB i) := fun W B H σ env Q si gd => by
  unfold mDealB at gd
  cases q0 : env[i]? with
  | none => rw [q0] at gd; exact gd.elim
  | some s =>
    rw [q0] at gd
    cases s with
    | deal c b =>
      obtain ⟨p, q, ev, hne, hp, hq, w, _⟩ := si.deal_at q0
      exact ⟨.ref p, ev, .inl ⟨p, _, 1, .int b, rfl, rfl, SqL.of hp, rfl, gd _ B H (fun _ _ e => e) si (.int b)⟩⟩
    | _ => exact gd.elim
/-- deal[1] = e -/
def mDealSetB (i : Nat) (f : M D) : M Ctl := fun e => (f e).bind fun d e => match d, e[i]? with
  | .int x, some (.deal c _) => .ok .next (e.set i (.deal c x))
  | _, _ => .stuck
theorem ss_dealSetB {te : TE} (hf : SD K ax te f) : SS K ax io (tAsg te (gSub (tVar i) (tC (.int 1)) rSetL)) (mDealSetB i f) := fun W B H σ env E hio si gd =>
  hf W B H σ env _ si (GoodS.bind gd fun d e v B1 H1 s1 si1 r1 g1 => by
    cases d with
    | int x =>
      cases q1 : e[i]? with
      | none => rw [q1] at g1; exact g1.elim
      | some s =>
        rw [q1] at g1
        cases s with
        | deal c b =>
          obtain ⟨p, q, ev, hne, hp, hq, _, w⟩ := si1.deal_at q1
          cases r1
          exact ⟨.ref p, ev, p, _, 1, 1, rfl, rfl, hp, rfl, g1 σ B1 _ (fun _ _ e => e) (w x)⟩
        | _ => exact g1.elim
    | _ => exact g1.elim)
/-! the script's first items; a source made -/
def mScrTake (i : Nat) (n : Nat) : M Sl := fun e => match e[i]? with
  | some (.scr ns) => .ok (.own ((ns.take n).map PyData.int)) e
  | _ => .stuck
theorem ints_rp : ∀ c : List Int, RpAll K B (c.map V.int) (c.map PyData.int)
  | [] => .nil
  | i :: c => .cons (.int i) (ints_rp c)
theorem SI.scr_at {ns : List Int} (si : SI K W B H σ env) (e : env[i]? = some (.scr ns)) : ∃ a, σ[i]? = some (some (.ref a)) ∧ SqL K B a (ns.map V.int) := by
  obtain ⟨g, F, s⟩ := si
  rcases s.at_ i _ e with z | ⟨v, ev, a, rfl, h⟩
  · cases z
  · exact ⟨a, ev, h⟩
theorem so_scrTake {n : Nat} (hn : n ≤ 16777216) : SO K ax (tSl (rSlL K) (tVar i) tNoPart (tPart (tC (.int (n : Int))))) (mScrTake i n) := fun W B H σ env Q si gd => by
  unfold mScrTake at gd
  cases q0 : env[i]? with
  | none => rw [q0] at gd; exact gd.elim
  | some s =>
    rw [q0] at gd
    cases s with
    | scr ns =>
      obtain ⟨a, ev, h⟩ := si.scr_at q0
      refine ⟨.ref a, ev, (n : Int), rfl, a, _, rfl, si.same.seq h, fun p hp => ?_⟩
      have e1 : cutV (ns.map V.int) none (some (n : Int)) = (ns.take n).map V.int := by
        unfold cutV
        rw [HT.sIx_none, HT.sIx_nat, List.drop_zero, Nat.sub_zero, List.length_map, ← List.map_take]
        congr 1
        rcases Nat.le_total n ns.length with z | z
        · rw [Nat.min_eq_left z]
        · rw [Nat.min_eq_right z, List.take_of_length_le (Nat.le_refl _), List.take_of_length_le z]
      rw [e1]
      exact gd _ B _ (fun _ _ e => e) (si.newOwnL hp (ints_rp _) (line_of (by rw [List.length_map, List.length_take]; omega)))
    | _ => exact gd.elim
def intsD : List D → Option (List Int)
  | [] => some []
  | .int i :: r => (intsD r).map (i :: ·)
  | _ :: _ => none
theorem intsD_rp : ∀ {ds : List D} {ns : List Int} {vs : List V}, intsD ds = some ns → RpAll K B vs ds → vs = ns.map V.int
  | [], ns, vs, e, r => by
    cases r
    cases e
    rfl
  | d :: ds, ns, vs, e, r => by
    cases r with
    | cons h r =>
      cases h with
      | int b =>
        unfold intsD at e
        obtain ⟨cs, e1, e2⟩ := Option.map_eq_some_iff.mp e
        subst e2
        rw [intsD_rp e1 r]; rfl
      | _ => simp [intsD] at e
/-- e[::-1], a list -/
def mRev (f : M D) : M Sl := fun e => (f e).bind fun d e => match d with
  | .list ds => .ok (.own ds.reverse) e
  | _ => .stuck
theorem so_rev {te : TE} (hf : SD K ax te f) : SO K ax (tRevL K te) (mRev f) := fun W B H σ env Q si gd =>
  hf W B H σ env _ si (GoodO.bind gd fun d e v B1 H1 s1 si1 r1 g1 => by
    cases r1 with
    | lst h z rs => exact ⟨_, _, rfl, SqL.of (si1.same _ _ h), fun p hp => g1 _ B1 _ (fun _ _ e => e) (si1.newOwnL hp rs.reverse (by rw [List.length_reverse]; exact z))⟩
    | _ => exact g1.elim)
theorem mo_rev {p1 p2 p3 : Pos} {k : Nat} (h : MD ax X a f) : MO ax X (.Subscript a (.Slice none none (some (.UnaryOp .USub (.Constant (.int 1) k p1) p2)) p3) pos) (mRev f) := let ⟨_, p, s⟩ := h; ⟨_, pe_revL p, so_rev s⟩
/-- [e, x]: e a new list of ints, x a name that holds an int -/
def mDealNew (f : M Sl) (j : Nat) : M Sl := fun e => match f e with
  | .ok (.own ds) e => (match intsD ds, e[j]? with
    | some c, some (.dat (.int b)) => .ok (.deal c b) e
    | _, _ => .stuck)
  | .err k d e => .err k d e
  | _ => .stuck
theorem so_dealNew {te : TE} {f : M Sl} {j : Nat} (hf : SO K ax te f) : SO K ax (tLst (tCons te (tCons (tVar j) tNil))) (mDealNew f j) := fun W B H σ env Q si gd => by
  refine hf W B H σ env _ si ?_
  unfold mDealNew at gd
  cases q0 : f env with
  | stuck => rw [q0] at gd; exact gd
  | err k d e => rw [q0] at gd; exact gd
  | ok s e =>
    rw [q0] at gd
    intro v B1 H1 s1 siv
    cases s with
    | own ds =>
      dsimp only at gd
      split at gd
      · rename_i c b h1 h2
        obtain ⟨g, F, Fv, sl, ⟨q, vs, rfl, hqF, oq, hq, rs, z⟩, hm, hd⟩ := siv
        obtain ⟨u, eu, ru⟩ := SI.at_dat ⟨g, F, sl⟩ h2
        cases ru
        have ev := intsD_rp h1 rs
        refine ⟨_, eu, by show 2 ≤ sizeLine; decide, fun p hp => ?_⟩
        have npq : p ≠ q := (ne_of_none hq hp).symm
        have bp : B1 p = none := Same.free g.bh hp
        have op : W.H0 p = none := by
          cases y : W.H0 p with
          | none => rfl
          | some w => exact absurd hp (g.st p (by rw [y]; simp))
        have nF : ∀ i a, a ∈ F i → a ≠ p := fun i a ha y => by
          have m := (sl.there i a ha).1
          rw [y, hp] at m; exact m
        have gn := (SI.newH (o := .lst [.ref q, .int b]) ⟨g, F, sl⟩ hp).1
        refine gd (.ref p) B1 _ s1 ⟨gn, F, [p, q], sl.grow (fun _ _ h => h) (fun _ _ _ h => h) fun i a ha o e => by rw [upd_ne (nF i a ha)]; exact e,
          ⟨p, q, rfl, by simp, by simp, npq, ⟨bp, .inl op⟩, ⟨oq.nb, oq.fr⟩, upd_same, by rw [upd_ne npq.symm, hq, ev]⟩, fun a ha => ?_, fun i a ha hav => ?_⟩
        · have : a = p ∨ a = q := by simpa using ha
          rcases this with rfl | rfl
          · exact ⟨by rw [upd_same]; trivial, bp, .inl op⟩
          · exact ⟨by rw [upd_ne npq.symm, hq]; trivial, oq.nb, oq.fr⟩
        · have : a = p ∨ a = q := by simpa using hav
          rcases this with rfl | rfl
          · exact nF i a ha rfl
          · exact hd i a ha hqF
      · exact gd.elim
    | _ => exact gd.elim
end
end Lp

namespace Lp
open PySem PySem.Spec L2
set_option autoImplicit false
/-! ### a law's end -/
/-- the heap of the beginning: the script alone, if it is no object of the written part -/
def scrH (t : Bool) (a : Addr) (ob : Obj) (ns : List Int) : Hp := fun b => if t = true ∧ b = a then some (.frz ob (.lst (ns.map V.int))) else none
theorem scrH_at {t : Bool} {a b : Addr} {ob : Obj} {ns : List Int} {u : HO} (h : scrH t a ob ns b = some u) : t = true ∧ b = a ∧ u = .frz ob (.lst (ns.map V.int)) := by
  unfold scrH at h
  split at h
  · rename_i q; cases h; exact ⟨q.1, q.2, rfl⟩
  · cases h
theorem law_callG {P : Program} {w : World} {K : PySem.W.Frag} {mg mb : Str → Option Value} {k : Nat} {fa a : Addr} {fd : FuncData} {x : Str} {sp : Sp} {s₁ : Shared} {vs : List Value} {ns : List Int}
    (KX : K.In s₁.heap) (hns : s₁.heap.Ns mainGlobals mg) (hb : s₁.heap.Ns builtinsNs mb) (hbb : ∀ x : Str, x ≠ "__name__" → mb x = bootBuiltins x) (hlim : s₁.heap.NoLimit) (hg : s₁.gens = #[])
    (ha : s₁.heap.get? a = some { cls := .type "list", data := .seq vs.toArray }) (hi : PyProof.Rows.IntsAre vs ns) (hl : ns.length ≤ sizeLine) (hr : Room k callerA)
    (F : ∀ base : Heap, K.In base → base.Ns mainGlobals mg → FnG P w K mg base k fa fd [x] sp) (hbind : ∀ (s : Shared) (u : Value), BindsTo s fd ⟨[u], []⟩ [(x, u)])
    (hsp : ∀ H : Hp, SqL K H a (ns.map V.int) → sp [.ref a] H (fun v _ => v = .bl true) fun _ _ _ => False) :
    codeAny (model P w) callerA (.call (.ref fa) ⟨[.ref a], []⟩) (fun r s' => r = .ok (.ret (.bool true)) ∧ OldK s₁.heap s'.heap ∧ s'.os = s₁.os ∧ PyProof.Rows.AllBare s'.gens) s₁ := by
  let ob : Obj := { cls := .type "list", data := .seq vs.toArray }
  have rv := vals_ints hi
  have hlv : vs.length = ns.length := by rw [← rv.length, List.length_map]
  obtain ⟨t, ht⟩ : ∃ t : Bool, (t = true → K.lookup a = none) ∧ (t = false → ∃ o, K.lookup a = some o) := by
    cases q : K.lookup a with
    | none => exact ⟨true, fun _ => rfl, fun z => by cases z⟩
    | some o => exact ⟨false, fun z => (by cases z), fun _ => ⟨o, rfl⟩⟩
  let H : Hp := scrH t a ob ns
  have hN : ∀ {b : Addr} {o : Obj}, s₁.heap.get? b = some o → (∀ vs' n, o.data ≠ .seq vs' n) → H b = none := fun {b o} e hd => by
    cases q : H b with
    | none => rfl
    | some u =>
      obtain ⟨_, rfl, _⟩ := scrH_at q
      rw [ha] at e
      cases e
      exact absurd rfl (hd _ _)
  have nsB : ∀ {b : Addr} {m : Str → Option Value}, s₁.heap.Ns b m → (hidT s₁.heap H).Ns b m := fun {b m} ⟨o, es, ep, e, d, r⟩ => ⟨o, es, ep, hidT_get e (hN e fun vs' n z => by rw [d] at z; cases z), d, r⟩
  have kB : K.In (hidT s₁.heap H) := fun b o e => hidT_get (KX b o e) (by
    cases q : H b with
    | none => rfl
    | some u =>
      obtain ⟨h1, rfl, _⟩ := scrH_at q
      rw [ht.1 h1] at e
      cases e)
  have hok : HOk P w H s₁.heap := fun b u e => by
    obtain ⟨_, rfl, rfl⟩ := scrH_at e
    exact ⟨ha, by rw [List.length_map]; exact hl, vs, _, rv, ha⟩
  have e0 : Env0 P w K mg (hidT s₁.heap H) callerA [] s₁ H :=
    { frames := rfl
      mod := ⟨kB, nsB hns, ⟨mb, nsB hb, hbb⟩, let ⟨mc, h1, h2⟩ := hlim; ⟨mc, nsB h1, h2⟩⟩
      bs := fun b o e => of_hidT e
      bsz := Nat.le_of_eq (hidT_size _ _)
      funs := trivial
      frf := fun b hb => absurd (show b ∈ ([] : List Addr) from hb) (by simp)
      hok := hok
      bare := .of_eq hg }
  have hS : SqL K H a (ns.map V.int) := by
    cases ht2 : t with
    | true => exact .inl (.inr ⟨ob, by show scrH t a ob ns a = _; unfold scrH; rw [if_pos ⟨ht2, rfl⟩]⟩)
    | false =>
      obtain ⟨o, e⟩ := ht.2 ht2
      have e2 := KX a o e
      rw [ha] at e2
      cases e2
      exact .inr ⟨_, vs.toArray, _, e, rfl, rfl, rfl, by rw [List.size_toArray, hlv]; exact hl, by simpa using rv⟩
  refine codeAny_mono ((F _ kB (nsB hns)).run callerA [] s₁ H ⟨[.ref a], []⟩ [.ref a] [.ref a] _ _ rfl hr e0 (hbind s₁ (.ref a)) (.cons rfl .nil) (hsp H hS)) fun r s' h => ?_
  cases r with
  | error e =>
    obtain ⟨_, _, _, _, _, _, _, _, _, _, _, _, z⟩ := h
    exact z.elim
  | ok fl =>
    cases fl with
    | next => exact False.elim h
    | brk => exact False.elim h
    | cont => exact False.elim h
    | ret u =>
      obtain ⟨v, H', os, bare, un, hok', r', q⟩ := h
      have q' : v = .bl true := q
      subst q'
      have eu : u = Value.bool true := r'
      subst eu
      refine ⟨rfl, OldK.of_keep fun b o e => ?_, os, bare⟩
      cases q : H b with
      | none => exact un.keep b o e q (fun z => absurd (show b ∈ ([] : List Addr) from z) (by simp)) (by simp)
      | some y =>
        obtain ⟨_, eb, ey⟩ := scrH_at q
        rw [ey] at q
        have q2 := un.frzs b _ _ q
        obtain ⟨e2, _⟩ := hok' b _ q2
        rw [eb] at e e2 ⊢
        rw [ha] at e
        cases e
        exact e2
theorem walk_ofG {l : PySem.W.OpenLaw} {n k : Nat} {q : Program} {loose : List Str} {XP : (Str → Option Value) → Heap → Prop} {YP : World → Heap → Prop} {d : DefRec} {x : Str}
    (hn : l.most = some n) (hn2 : n ≤ sizeLine) (hdf : d.params.defaults = []) (hr : Room k callerA)
    (F : ∀ (w : World) (mg : Str → Option Value) (fa : Addr) (h : Heap), YP w h → h.Ns mainGlobals mg → mg d.name = some (.ref fa) →
      ∃ (K : PySem.W.Frag) (fd : FuncData) (ec : Nat → Value) (g : Env' → Out Sl), K.In h ∧ (∀ (s : Shared) (u : Value), BindsTo s fd ⟨[u], []⟩ [(x, u)]) ∧
        (∀ (ns : List Int), ns.length ≤ n → ∃ e, g [.scr ns] = .ok (.dat (.bool true)) e) ∧
        ∀ base : Heap, K.In base → base.Ns mainGlobals mg → FnG l.prog w K mg base k fa fd [x] (spM K ec 1 [] g)) :
    PySem.W.WalkO q loose XP YP l.row.toRowW d [] (fun f vs => PySem.call f vs) := by
  refine Att.attach_call hn hdf fun w s₀ s₁ mg mb fa o pm cd doc a vs ns G Y ho hd hcd hmg hobj hints hlen hg => ?_
  obtain ⟨K, fd, ec, g, KX, hb, hgo, hF⟩ := F w mg fa _ Y G.T.g hmg
  refine law_callG KX G.T.g G.T.b G.T.builtins G.T.nolimit hg hobj hints (Nat.le_trans hlen hn2) hr hF hb fun H hS => ?_
  obtain ⟨e, ge⟩ := hgo ns hlen
  refine ⟨rfl, ⟨H, H, [], [], [some (.ref a)]⟩, [.scr ns], rfl, rfl, rfl, ⟨Grow.refl (fun _ _ h => h) [], fun _ => [], rfl, fun i hi => by simp at hi, fun i s es => ?_, fun i a ha => by simp at ha, fun i j a ha => by simp at ha⟩, ?_⟩
  · cases i with
    | zero => cases es; exact .inr ⟨.ref a, rfl, a, rfl, hS⟩
    | succ i => cases es
  · rw [ge]
    intro v B' H' sb siv
    exact siv.rp.bool_inv
/-! ### defs by their facts -/
theorem Fun.ofD {K : PySem.W.Frag} {x q : Str} {st : Stmt} {f : Addr} {fd : FuncData} (F : FunD K x q (defArgs st) (defBody st) (defScope st) [] [] f fd) : Fun K x q st f fd := by
  obtain ⟨oc, od, dV, kV, doc, pm, an, cdv, ct, osl, rfl, lk, hcd, hd, _⟩ := F.ex
  rcases hd with ⟨_, rfl⟩ | ⟨z, _⟩
  · exact ⟨⟨oc, od, kV, doc, pm, an, cdv, ct, osl, rfl, lk, hcd⟩, F.kp⟩
  · exact absurd rfl z
theorem Fun.kbinds {K : PySem.W.Frag} {x qual : Str} {st : Stmt} {f : Addr} {fd : FuncData} {ps ks : List Str} {is : List Nat} (F : Fun K x qual st f fd)
    (h : ∀ (kV doc pm : Value) (an : Option Addr) (cdv ct : Value) (ws : List Value), ws.length = ks.length → bindArgs (PySem.W.fnOf x qual (defArgs st) (defBody st) (defScope st) .none kV doc pm an cdv ct) ⟨[], ks.zip ws⟩ = pure (ps.zip (is.map fun i => ws.getD i .none))) :
    ∀ (s : Shared) (ws : List Value), ws.length = ks.length → BindsTo s fd ⟨[], ks.zip ws⟩ (ps.zip (is.map fun i => ws.getD i .none)) := fun s ws hl => by
  obtain ⟨oc, od, kV, doc, pm, an, cdv, ct, osl, rfl, lk, hcd⟩ := F.ex
  exact .of_eq (h kV doc pm an cdv ct ws hl)
end Lp

namespace Lp
open PySem PySem.Spec L2
set_option autoImplicit false
section
variable {ax : Ax} {X : Cx} {K : PySem.W.Frag} {W : Wd} {B B' H H' : Hp} {σ : L2.St} {env : Env'} {pos : Pos} {a b c e : Expr} {f h : M D} {io : List Nat} {st : Stmt} {sts : List Stmt} {m n : M Ctl} {i : Nat}
/-! ### statements composed -/
theorem mss_nil : MSs ax io X [] mNext := ⟨_, pss_nil, ss_next⟩
theorem mss_cons (h1 : MS ax io X st m) (h2 : MSs ax io X sts n) : MSs ax io X (st :: sts) (mSeq m n) := let ⟨_, p, s⟩ := h1; let ⟨_, p', s'⟩ := h2; ⟨_, pss_cons p p', ss_seq s s'⟩
theorem mss_one (h1 : MS ax io X st m) : MSs ax io X [st] m := let ⟨_, p, s⟩ := h1; ⟨_, pss_one p, s⟩
theorem ms_ret (h : MD ax X e f) : MS ax io X (.Return (some e) pos) (mRet f) := let ⟨_, p, s⟩ := h; ⟨_, ps_ret p, ss_ret s⟩
theorem ms_retO {f : M Sl} (h : MO ax X e f) : MS ax io X (.Return (some e) pos) (mRetO f) := let ⟨_, p, s⟩ := h; ⟨_, ps_ret p, ss_retO s⟩
theorem ms_retN : MS ax io X (.Return none pos) mRetN := ⟨_, ps_retN, ss_retN⟩
theorem ms_brk : MS ax io X (.Break pos) mBrk := ⟨_, ps_break, ss_brk⟩
theorem ms_cnt : MS ax io X (.Continue pos) mCnt := ⟨_, ps_continue, ss_cnt⟩
theorem ms_pass : MS ax io X (.Pass pos) mNext := ⟨_, ps_pass, ss_next⟩
theorem ms_do (h : MD ax X e f) (hs : swapsWith e none pos.line X.env = pure false := by rfl) : MS ax io X (.Expr e pos) (mDo f) := let ⟨_, p, s⟩ := h; ⟨_, ps_expr p hs, ss_do s⟩
theorem ms_if {t : M Bool} {as bs : List Stmt} (hc : MT ax X c t) (ha : MSs ax io X as m) (hb : MSs ax io X bs n) : MS ax io X (.If c as bs pos) (mIf t m n) := let ⟨_, p, s⟩ := hc; let ⟨_, p1, s1⟩ := ha; let ⟨_, p2, s2⟩ := hb; ⟨_, ps_if p p1 p2, ss_if s s1 s2⟩
theorem ms_thenF (is : List Nat) (h : MS ax io X st m) : MS ax io X st (mThenF is m) := let ⟨_, p, s⟩ := h; ⟨_, p, ss_thenF is s⟩
theorem ms_set (i : Nat) {x : Str} {px : Pos} (nd : X.N.Nodup) (hio : io.contains i = false) (h : MD ax X e f) (hi : X.N[i]? = some x := by rfl) (hx : Loc X.env.scope x := by first | exact Or.inl rfl | exact Or.inr rfl)
    (hs : swapsWithSole [.Name x px] e pos.line X.env = pure false := by rfl) (hw : swappedStores [.Name x px] e X.env = pure none := by rfl) (hf : X.fn x = true ∨ X.env.scope.names.lookup x = some .local := by first | exact .inl rfl | exact .inr rfl) : MS ax io X (.Assign [.Name x px] e pos) (mAsg i f) :=
  let ⟨_, p, s⟩ := h; ⟨_, ps_asg p (pg_name nd hi hx hf) hs hw, ss_asg s (by simpa using hio)⟩
theorem ms_setO (i : Nat) {x : Str} {px : Pos} {f : M Sl} (nd : X.N.Nodup) (hio : io.contains i = false) (h : MO ax X e f) (hi : X.N[i]? = some x := by rfl) (hx : Loc X.env.scope x := by first | exact Or.inl rfl | exact Or.inr rfl)
    (hs : swapsWithSole [.Name x px] e pos.line X.env = pure false := by rfl) (hw : swappedStores [.Name x px] e X.env = pure none := by rfl) (hf : X.fn x = true ∨ X.env.scope.names.lookup x = some .local := by first | exact .inl rfl | exact .inr rfl) : MS ax io X (.Assign [.Name x px] e pos) (mAsgO i f) :=
  let ⟨_, p, s⟩ := h; ⟨_, ps_asg p (pg_name nd hi hx hf) hs hw, ss_asgO s (by simpa using hio)⟩
/-! targets -/
def MG (io : List Nat) (X : Cx) (tg : Expr) (t : D → Env' → Option Env') (vs : List Nat) : Prop := ∃ g, PG X tg g ∧ SG X.K io g t ∧ GIn vs g
def MGs (io : List Nat) (X : Cx) (tgs : List Expr) (t : List D → Env' → Option Env') (vs : List Nat) (n : Nat) : Prop := ∃ g, PGs X tgs g ∧ SGs X.K io g t ∧ GIns vs g ∧ ∀ ds e, ds.length ≠ n → t ds e = none
theorem mg_name (i : Nat) {vs : List Nat} {x : Str} {px : Pos} (nd : X.N.Nodup) (hio : io.contains i = false) (hv : vs.contains i = true) (hi : X.N[i]? = some x := by rfl) (hx : Loc X.env.scope x := by first | exact Or.inl rfl | exact Or.inr rfl)
    (hf : X.fn x = true ∨ X.env.scope.names.lookup x = some .local := by first | exact .inl rfl | exact .inr rfl) : MG io X (.Name x px) (gtN i) vs :=
  ⟨_, pg_name nd hi hx hf, sg_name (by simpa using hio), gin_name (by simpa using hv)⟩
theorem mgs_nil {vs : List Nat} : MGs io X [] gtNil vs 0 := ⟨_, pgs_nil, sgs_nil, gin_nil, fun ds e h => by cases ds <;> first | rfl | exact absurd rfl h⟩
theorem mgs_cons {vs : List Nat} {tg : Expr} {tgs : List Expr} {t : D → Env' → Option Env'} {u : List D → Env' → Option Env'} {n : Nat} (h : MG io X tg t vs) (hs : MGs io X tgs u vs n) (ha : (assignEach (tg :: tgs) X.env).map (·.2) = assign tg X.env :: (assignEach tgs X.env).map (·.2) := by rfl) : MGs io X (tg :: tgs) (gtCons t u) vs (n + 1) := by
  obtain ⟨g, p, s, q⟩ := h
  obtain ⟨gs, p', s', q', z⟩ := hs
  refine ⟨_, pgs_cons p p' ha, sgs_cons s s', gin_cons q q', fun ds e hl => ?_⟩
  cases ds with
  | nil => rfl
  | cons d ds =>
    show (t d e).bind (fun e => u ds e) = none
    cases t d e with
    | none => rfl
    | some e1 => exact z ds e1 (by simpa using hl)
theorem mg_tup {vs : List Nat} {tgs : List Expr} {u : List D → Env' → Option Env'} {k n : Nat} (hs : MGs io X tgs u vs n) (hc : X.calm = true := by rfl) (hn : (assignEach tgs X.env).length = n := by rfl) (hst : (assignEach tgs X.env).findIdx? (·.1) = none := by rfl) : MG io X (.Tuple tgs k pos) (gtTup u) vs := by
  obtain ⟨gs, p', s', q', z⟩ := hs
  exact ⟨_, pg_tup hc p' hn hst, sg_tup s' z, gin_tup q'⟩
theorem ms_asgT {tg : Expr} {t : D → Env' → Option Env'} {vs : List Nat} (h : MD ax X e f) (hg : MG io X tg t vs) (hs : swapsWithSole [tg] e pos.line X.env = pure false := by rfl) (hw : swappedStores [tg] e X.env = pure none := by rfl) (h1 : (assignEach [tg] X.env).map (·.2) = [assign tg X.env] := by rfl) : MS ax io X (.Assign [tg] e pos) (mAsgT f t) :=
  let ⟨_, p, s⟩ := h; let ⟨_, p', s', _⟩ := hg; ⟨_, ps_asg p p' hs hw h1, ss_asgT s s'⟩
theorem ms_for {tg iter : Expr} {it : M (List D)} {t : D → Env' → Option Env'} {vs : List Nat} {body : List Stmt} (fs : List Nat) (hp : PassesOwn (model X.prog X.w) X.A X.env X.xe) (hi : MI ax X tg iter it) (hg : MG io X tg t vs) (hb : MSs ax io X body m) (hc : X.calm = true := by rfl) (hs : ∀ x, foldedSetIterable iter X.env x = pure x := by intro _; rfl) :
    MS ax io X (.For tg iter body [] pos) (mFor it t m fs) := let ⟨_, p, s⟩ := hi; let ⟨_, p1, s1, _⟩ := hg; let ⟨_, p2, s2⟩ := hb; ⟨_, ps_for hp hc p p1 p2 hs, ss_for fs s s1 s2⟩
theorem ms_while {t : M Bool} {body : List Stmt} (k : Nat) (fs : List Nat) (hp : PassesOwn (model X.prog X.w) X.A X.env X.xe) (hc : MT ax X c t) (hb : MSs ax io X body m) : MS ax io X (.While c body [] pos) (mWhile k t m fs) :=
  let ⟨_, p, s⟩ := hc; let ⟨_, p2, s2⟩ := hb; ⟨_, ps_while hp p p2, ss_while k fs s s2⟩
/-! ### what is walked -/
theorem mi_rng1 {tg : Expr} {p : Pos} {fa : M (List D)} (hm : X.mg "range" = none) (ha : MA ax X [a] fa) (hg : Gl X "range" := by rfl) (hs : starEach [a] X.env = [(false, eval a X.env)] := by rfl) : MI ax X tg (.Call (.Name "range" p) [a] [] pos) (mItO rg1 fa) := let ⟨_, p', s'⟩ := ha; ⟨_, pi_range1 hg hm p' hs, si_rng1 s'⟩
theorem mi_rng2 {tg : Expr} {p : Pos} {fa : M (List D)} (hm : X.mg "range" = none) (ha : MA ax X [a, b] fa) (hg : Gl X "range" := by rfl) (hs : starEach [a, b] X.env = [(false, eval a X.env), (false, eval b X.env)] := by rfl) (hs2 : starEach [b] X.env = [(false, eval b X.env)] := by rfl) : MI ax X tg (.Call (.Name "range" p) [a, b] [] pos) (mItO rg2 fa) := let ⟨_, p', s'⟩ := ha; ⟨_, pi_range2 hg hm p' hs hs2, si_rng2 s'⟩
/-! ### comprehensions -/
def MTs (ax : Ax) (X : Cx) (ifs : List Expr) (t : M Bool) : Prop := ∃ tt, PTs X ifs tt ∧ ST X.K ax tt t
def mYes : M Bool := fun e => .ok true e
theorem mts_nil : MTs ax X [] mYes := ⟨_, pts_nil, fun W B H σ env Q si g => g true B H (fun _ _ e => e) si rfl⟩
theorem mts_one {t : M Bool} (h : MT ax X c t) : MTs ax X [c] t := let ⟨_, p, s⟩ := h; ⟨_, pts_one p, s⟩
/-! the parts of a block, for each of its contexts -/
abbrev Ctx := Shared → Hp → Addr → List (Str × Addr) → List Addr → Cx
abbrev blkX (X : Cx) (scope : Scope) : Ctx := fun s H C cl fp => X.blk s H scope (compEnvC scope cl C X.env) fp
def BG (X : Cx) (scope : Scope) (tg : Expr) (t : D → Env' → Option Env') (vs : List Nat) : Prop := ∃ g, (∀ s H C cl fp, PG (blkX X scope s H C cl fp) tg g) ∧ SG X.K [] g t ∧ GIn vs g
def BGs (X : Cx) (scope : Scope) (tgs : List Expr) (t : List D → Env' → Option Env') (vs : List Nat) (n : Nat) : Prop := ∃ g, (∀ s H C cl fp, PGs (blkX X scope s H C cl fp) tgs g) ∧ SGs X.K [] g t ∧ GIns vs g ∧ ∀ ds e, ds.length ≠ n → t ds e = none
theorem bg_name (i : Nat) {scope : Scope} {vs : List Nat} {x : Str} {px : Pos} (nd : X.N.Nodup) (hv : vs.contains i = true := by rfl) (hi : X.N[i]? = some x := by rfl) (hx : ∀ s H C cl fp, Loc (blkX X scope s H C cl fp).env.scope x := by intro _ _ _ _ _; first | exact Or.inl rfl | exact Or.inr rfl)
    (hf : ∀ s H C cl fp, (blkX X scope s H C cl fp).fn x = true ∨ (blkX X scope s H C cl fp).env.scope.names.lookup x = some .local := by intro _ _ _ _ _; first | exact .inl rfl | exact .inr rfl) : BG X scope (.Name x px) (gtN i) vs :=
  ⟨_, fun s H C cl fp => pg_name nd hi (hx s H C cl fp) (hf s H C cl fp), sg_name (by simp), gin_name (by simpa using hv)⟩
theorem bgs_nil {scope : Scope} {vs : List Nat} : BGs X scope [] gtNil vs 0 := ⟨_, fun _ _ _ _ _ => pgs_nil, sgs_nil, gin_nil, fun ds e h => by cases ds <;> first | rfl | exact absurd rfl h⟩
theorem bgs_cons {scope : Scope} {vs : List Nat} {tg : Expr} {tgs : List Expr} {t : D → Env' → Option Env'} {u : List D → Env' → Option Env'} {n : Nat} (h : BG X scope tg t vs) (hs : BGs X scope tgs u vs n)
    (ha : ∀ s H C cl fp, (assignEach (tg :: tgs) (blkX X scope s H C cl fp).env).map (·.2) = assign tg (blkX X scope s H C cl fp).env :: (assignEach tgs (blkX X scope s H C cl fp).env).map (·.2) := by intro _ _ _ _ _; rfl) : BGs X scope (tg :: tgs) (gtCons t u) vs (n + 1) := by
  obtain ⟨g, p, s, q⟩ := h
  obtain ⟨gs, p', s', q', z⟩ := hs
  refine ⟨_, fun s H C cl fp => pgs_cons (p s H C cl fp) (p' s H C cl fp) (ha s H C cl fp), sgs_cons s s', gin_cons q q', fun ds e hl => ?_⟩
  cases ds with
  | nil => rfl
  | cons d ds =>
    show (t d e).bind (fun e => u ds e) = none
    cases t d e with
    | none => rfl
    | some e1 => exact z ds e1 (by simpa using hl)
theorem bg_tup {scope : Scope} {vs : List Nat} {tgs : List Expr} {u : List D → Env' → Option Env'} {k n : Nat} (hs : BGs X scope tgs u vs n) (hc : X.calm = true := by rfl)
    (hn : ∀ s H C cl fp, (assignEach tgs (blkX X scope s H C cl fp).env).length = n := by intro _ _ _ _ _; rfl) (hst : ∀ s H C cl fp, (assignEach tgs (blkX X scope s H C cl fp).env).findIdx? (·.1) = none := by intro _ _ _ _ _; rfl) : BG X scope (.Tuple tgs k pos) (gtTup u) vs := by
  obtain ⟨gs, p', s', q', z⟩ := hs
  exact ⟨_, fun s H C cl fp => pg_tup (X := blkX X scope s H C cl fp) hc (p' s H C cl fp) (hn s H C cl fp) (hst s H C cl fp), sg_tup s' z, gin_tup q'⟩
/-- the loosest reading that a mirror bears -/
def cE (K : PySem.W.Frag) (ax : Ax) (f : M D) : TE := fun σ H Q => ∃ W B env, SI K W B H σ env ∧ Good (RD K) K ax W σ B Q (f env)
def cT (K : PySem.W.Frag) (ax : Ax) (f : M Bool) : TT := fun σ H Q => ∃ W B env, SI K W B H σ env ∧ Good RT K ax W σ B Q (f env)
theorem sd_cE (K : PySem.W.Frag) (ax : Ax) (f : M D) : SD K ax (cE K ax f) f := fun W B _ _ env _ si g => ⟨W, B, env, si, g⟩
theorem st_cT (K : PySem.W.Frag) (ax : Ax) (f : M Bool) : ST K ax (cT K ax f) f := fun W B _ _ env _ si g => ⟨W, B, env, si, g⟩
theorem MD.canon (h : MD ax X e f) : PE X e (cE X.K ax f) := let ⟨_, p, s⟩ := h; ⟨fun pins t σ H Q I ⟨W, B, env, si, g⟩ => p.run pins t σ H Q I (s W B H σ env Q si g)⟩
theorem MTs.canon {ifs : List Expr} {t : M Bool} (h : MTs ax X ifs t) : PTs X ifs (cT X.K ax t) := let ⟨_, p, s⟩ := h; ⟨fun pins t σ H Q I ⟨W, B, env, si, g⟩ => p.run pins t σ H Q I (s W B H σ env Q si g)⟩
theorem mo_lc {elt tg iter : Expr} {ifs : List Expr} {scope : Scope} {it : M (List D)} {t : D → Env' → Option Env'} {c : M Bool} (own : List (Str × Nat)) (nd : X.N.Nodup) (hi : MI ax X tg iter it) (ok : BlkOk X.N X.env.scope scope own)
    (hg : BG X scope tg t (own.map (·.2))) (hc : ∀ s H C cl fp, MTs (ax0 ax) (blkX X scope s H C cl fp) ifs c) (he : ∀ s H C cl fp, MD (ax0 ax) (blkX X scope s H C cl fp) elt f) (hm : X.calm = true := by rfl) (hs : ∀ x, foldedSetIterable iter X.env x = pure x := by intro _; rfl) :
    MO ax X (.ListComp elt [⟨tg, iter, ifs, 0⟩] scope pos) (mComp (own.map (·.2)) it t c f) := by
  obtain ⟨wi, p, s⟩ := hi
  obtain ⟨g, pg, sg, gi⟩ := hg
  exact ⟨_, pe_lc (tt := cT X.K (ax0 ax) c) (te := cE X.K (ax0 ax) f) hm nd p ok pg (fun s H C cl fp => (hc s H C cl fp).canon) (fun s H C cl fp => (he s H C cl fp).canon) hs, so_comp s sg gi (st_cT _ _ _) (sd_cE _ _ _)⟩
/-- name = [..]: one token less, the same mirror -/
theorem ms_setLc (i : Nat) {y : Str} {py : Pos} {elt tg iter : Expr} {ifs : List Expr} {scope : Scope} {spos : Pos} {it : M (List D)} {t : D → Env' → Option Env'} {c : M Bool} (own : List (Str × Nat)) (nd : X.N.Nodup) (hio : io.contains i = false) (hi : MI ax X tg iter it) (ok : BlkOk X.N X.env.scope scope own)
    (hg : BG X scope tg t (own.map (·.2))) (hc : ∀ s H C cl fp, MTs (ax0 ax) (blkX X scope s H C cl fp) ifs c) (he : ∀ s H C cl fp, MD (ax0 ax) (blkX X scope s H C cl fp) elt f) (hsw : swapsWith (.ListComp elt [⟨tg, iter, ifs, 0⟩] scope pos) (some (.Name y py)) spos.line X.env = pure true)
    (hy : X.N[i]? = some y := by rfl) (hyl : X.env.scope.names.lookup y = some .local := by rfl) (hm : X.calm = true := by rfl) (hs : ∀ x, foldedSetIterable iter X.env x = pure x := by intro _; rfl) :
    MS ax io X (.Assign [.Name y py] (.ListComp elt [⟨tg, iter, ifs, 0⟩] scope pos) spos) (mAsgO i (mComp (own.map (·.2)) it t c f)) := by
  obtain ⟨wi, p, s⟩ := hi
  obtain ⟨g, pg, sg, gi⟩ := hg
  exact ⟨_, ps_setLc (tt := cT X.K (ax0 ax) c) (te := cE X.K (ax0 ax) f) hm nd hy hyl hsw p ok pg (fun s H C cl fp => (hc s H C cl fp).canon) (fun s H C cl fp => (he s H C cl fp).canon) hs, ss_asgO (so_comp s sg gi (st_cT _ _ _) (sd_cE _ _ _)) (by simpa using hio)⟩
theorem ms_setLcD (i : Nat) {y : Str} {py : Pos} {elt tg iter : Expr} {ifs : List Expr} {scope : Scope} {spos : Pos} {it : M (List D)} {t : D → Env' → Option Env'} {c : M Bool} (own : List (Str × Nat)) (nd : X.N.Nodup) (hio : io.contains i = false) (hi : MI ax X tg iter it) (ok : BlkOk X.N X.env.scope scope own)
    (hg : BG X scope tg t (own.map (·.2))) (hc : ∀ s H C cl fp, MTs (ax0 ax) (blkX X scope s H C cl fp) ifs c) (he : ∀ s H C cl fp, MD (ax0 ax) (blkX X scope s H C cl fp) elt f) (hsw : swapsWith (.ListComp elt [⟨tg, iter, ifs, 0⟩] scope pos) (some (.Name y py)) spos.line X.env = pure true)
    (hy : X.N[i]? = some y := by rfl) (hyl : X.env.scope.names.lookup y = some .local := by rfl) (hm : X.calm = true := by rfl) (hs : ∀ x, foldedSetIterable iter X.env x = pure x := by intro _; rfl) :
    MS ax io X (.Assign [.Name y py] (.ListComp elt [⟨tg, iter, ifs, 0⟩] scope pos) spos) (mAsg i (mFz (mComp (own.map (·.2)) it t c f))) := by
  obtain ⟨wi, p, s⟩ := hi
  obtain ⟨g, pg, sg, gi⟩ := hg
  exact ⟨_, ps_setLc (tt := cT X.K (ax0 ax) c) (te := cE X.K (ax0 ax) f) hm nd hy hyl hsw p ok pg (fun s H C cl fp => (hc s H C cl fp).canon) (fun s H C cl fp => (he s H C cl fp).canon) hs, ss_asg (sd_fz (so_comp s sg gi (st_cT _ _ _) (sd_cE _ _ _))) (by simpa using hio)⟩
end
end Lp

namespace Lp
open PySem PySem.Spec L2
set_option autoImplicit false
/-! ### the statements over a source of draws -/
section
variable {ax : Ax} {X : Cx} {pos p0 p1 p2 p3 p4 p5 p6 p7 p8 : Pos} {x y z : Str} {j0 j1 : Nat} {io : List Nat}
abbrev dIt (x : Str) (p1 p2 p3 : Pos) (j : Nat) : Expr := .Subscript (.Name x p1) (.Constant (.int 0) j p2) p3
theorem mt_dealNe (i : Nat) (hu : X.A.units + 64 < cLine) (hN : X.N[i]? = some x := by rfl) (hv : Vis X.env.scope x := by first | exact Or.inl rfl | exact Or.inr (Or.inl rfl) | exact Or.inr (Or.inr rfl)) (hd : (x == ("__debug__" : Str)) = false := by decide) (hcd : (x == ("__classdict__" : Str)) = false := by decide) :
    MT ax X (.Compare (.Subscript (.Name x p1) (.Constant (.int 0) j0 p2) p3) [.NotEq] [.List [] p4] p5) (mDealNe i) :=
  ⟨_, pt_cmpR (op_neD hu) (pe_ix ix_seq (pe_var hN hv hd hcd) pe_int fun _ _ => rfl) (pe_lst pa_nil) (nomark _), st_dealNe⟩
theorem md_dealLast (i : Nat) (hN : X.N[i]? = some x := by rfl) (hv : Vis X.env.scope x := by first | exact Or.inl rfl | exact Or.inr (Or.inl rfl) | exact Or.inr (Or.inr rfl)) (hd : (x == ("__debug__" : Str)) = false := by decide) (hcd : (x == ("__classdict__" : Str)) = false := by decide) :
    MD ax X (.Subscript (.Subscript (.Name x p1) (.Constant (.int 0) j0 p2) p3) (.UnaryOp .USub (.Constant (.int 1) j1 p4) p5) p6) (mDealLast i) :=
  ⟨_, pe_ix ix_seq (pe_ix ix_seq (pe_var hN hv hd hcd) pe_int fun _ _ => rfl) (pe_un un_neg pe_int) fun _ _ => rfl, sd_dealLast⟩
theorem md_dealPop (i : Nat) (hN : X.N[i]? = some x := by rfl) (hv : Vis X.env.scope x := by first | exact Or.inl rfl | exact Or.inr (Or.inl rfl) | exact Or.inr (Or.inr rfl)) (hd : (x == ("__debug__" : Str)) = false := by decide) (hcd : (x == ("__classdict__" : Str)) = false := by decide)
    (hb : attributeBase (.Subscript (.Name x p1) (.Constant (.int 0) j0 p2) p3) "pop" X.env (eval (.Subscript (.Name x p1) (.Constant (.int 0) j0 p2) p3) X.env) = eval (.Subscript (.Name x p1) (.Constant (.int 0) j0 p2) p3) X.env := by rfl) (hl : (p4.endLine == p5.line) = true := by rfl) :
    MD ax X (.Call (.Attribute (.Subscript (.Name x p1) (.Constant (.int 0) j0 p2) p3) "pop" p4) [] [] p5) (mDealPop i) :=
  ⟨_, pe_bm0 PySem.F.plainAttrs_list PySem.F.slot_list_pop PySem.F.type_list_pop mt_pop (pe_ix ix_seq (pe_var hN hv hd hcd) pe_int fun _ _ => rfl) hb hl, sd_dealPop⟩
theorem md_dealB (i : Nat) (hN : X.N[i]? = some x := by rfl) (hv : Vis X.env.scope x := by first | exact Or.inl rfl | exact Or.inr (Or.inl rfl) | exact Or.inr (Or.inr rfl)) (hd : (x == ("__debug__" : Str)) = false := by decide) (hcd : (x == ("__classdict__" : Str)) = false := by decide) :
    MD ax X (.Subscript (.Name x p1) (.Constant (.int 1) j0 p2) p3) (mDealB i) := ⟨_, pe_ix ix_seq (pe_var hN hv hd hcd) pe_int fun _ _ => rfl, sd_dealB⟩
theorem ms_dealApp (i j k : Nat) (hN : X.N[i]? = some x := by rfl) (hNy : X.N[j]? = some y := by rfl) (hNz : X.N[k]? = some z := by rfl) (hv : Vis X.env.scope x := by first | exact Or.inl rfl | exact Or.inr (Or.inl rfl) | exact Or.inr (Or.inr rfl)) (hvy : Vis X.env.scope y := by first | exact Or.inl rfl | exact Or.inr (Or.inl rfl) | exact Or.inr (Or.inr rfl)) (hvz : Vis X.env.scope z := by first | exact Or.inl rfl | exact Or.inr (Or.inl rfl) | exact Or.inr (Or.inr rfl))
    (hd : (x == ("__debug__" : Str)) = false := by decide) (hcd : (x == ("__classdict__" : Str)) = false := by decide) (hdy : (y == ("__debug__" : Str)) = false := by decide) (hcdy : (y == ("__classdict__" : Str)) = false := by decide) (hdz : (z == ("__debug__" : Str)) = false := by decide) (hcdz : (z == ("__classdict__" : Str)) = false := by decide)
    (hb : attributeBase (.Subscript (.Name x p1) (.Constant (.int 0) j0 p2) p3) "append" X.env (eval (.Subscript (.Name x p1) (.Constant (.int 0) j0 p2) p3) X.env) = eval (.Subscript (.Name x p1) (.Constant (.int 0) j0 p2) p3) X.env := by rfl) (hl : (p4.endLine == p8.line) = true := by rfl)
    (hfew : ((backTo p8 (starEach [.BinOp (.Name y p5) .FloorDiv (.Name z p6) p7] X.env)).all (fun x => !x.1) && (backToKw p8 (keywordEach [] X.env)).all (fun x => x.1.isSome) && decide ([Expr.BinOp (.Name y p5) .FloorDiv (.Name z p6) p7].length + ([] : List Keyword).length + (if ([] : List Keyword).isEmpty then 0 else 1) < 30)) = true := by rfl)
    (hs : starEach [.BinOp (.Name y p5) .FloorDiv (.Name z p6) p7] X.env = (false, eval (.BinOp (.Name y p5) .FloorDiv (.Name z p6) p7) X.env) :: starEach [] X.env := by rfl) (hp : (backTo p8 (starEach [] X.env)).any (·.1) = false := by rfl)
    (hsw : swapsWith (.Call (.Attribute (.Subscript (.Name x p1) (.Constant (.int 0) j0 p2) p3) "append" p4) [.BinOp (.Name y p5) .FloorDiv (.Name z p6) p7] [] p8) none pos.line X.env = pure false := by rfl) :
    MS ax io X (.Expr (.Call (.Attribute (.Subscript (.Name x p1) (.Constant (.int 0) j0 p2) p3) "append" p4) [.BinOp (.Name y p5) .FloorDiv (.Name z p6) p7] [] p8) pos) (mDealApp i j k) :=
  ⟨_, ps_expr (pe_bm PySem.F.plainAttrs_list PySem.F.slot_list_append PySem.F.type_list_append mt_append (pe_ix ix_seq (pe_var hN hv hd hcd) pe_int fun _ _ => rfl) (pa_cons (pe_op op_fdivW (pe_var hNy hvy hdy hcdy) (pe_var hNz hvz hdz hcdz)) pa_nil hs) hb hfew hl hs hp) hsw, ss_dealApp⟩
theorem ms_dealSetB (i : Nat) {e : Expr} {f : M D} (h : MD ax X e f) (hN : X.N[i]? = some x := by rfl) (hv : Vis X.env.scope x := by first | exact Or.inl rfl | exact Or.inr (Or.inl rfl) | exact Or.inr (Or.inr rfl)) (hd : (x == ("__debug__" : Str)) = false := by decide) (hcd : (x == ("__classdict__" : Str)) = false := by decide)
    (hs : swapsWithSole [.Subscript (.Name x p1) (.Constant (.int 1) j0 p2) p3] e pos.line X.env = pure false := by rfl) (hw : swappedStores [.Subscript (.Name x p1) (.Constant (.int 1) j0 p2) p3] e X.env = pure none := by rfl)
    (ha : ∀ v, assign (.Subscript (.Name x p1) (.Constant (.int 1) j0 p2) p3) X.env v = (do
      let ov ← holding [v] (eval (.Name x p1) X.env)
      let iv ← holding [v, ov] (eval (.Constant (.int 1) j0 p2) X.env)
      standAt p3
      holding [v, ov, iv] (setItem ov iv v)
      release [v, ov, iv] []) := by intro _; rfl) (h1 : (assignEach [.Subscript (.Name x p1) (.Constant (.int 1) j0 p2) p3] X.env).map (·.2) = [assign (.Subscript (.Name x p1) (.Constant (.int 1) j0 p2) p3) X.env] := by rfl) :
    MS ax io X (.Assign [.Subscript (.Name x p1) (.Constant (.int 1) j0 p2) p3] e pos) (mDealSetB i f) :=
  let ⟨_, p, s⟩ := h; ⟨_, ps_asg p (pg_sub (pe_var hN hv hd hcd) pe_int set_list ha) hs hw h1, ss_dealSetB s⟩
theorem mo_scrTake (i n : Nat) (hn : n ≤ 16777216 := by decide) (hN : X.N[i]? = some x := by rfl) (hv : Vis X.env.scope x := by first | exact Or.inl rfl | exact Or.inr (Or.inl rfl) | exact Or.inr (Or.inr rfl)) (hd : (x == ("__debug__" : Str)) = false := by decide) (hcd : (x == ("__classdict__" : Str)) = false := by decide) :
    MO ax X (.Subscript (.Name x p1) (.Slice none (some (.Constant (.int (n : Int)) j0 p2)) none p3) p4) (mScrTake i n) := ⟨_, pe_slice sl_list (pe_var hN hv hd hcd) po_none (po_some pe_int), so_scrTake hn⟩
theorem mo_dealNew {e : Expr} {f : M Sl} (j : Nat) (h : MO ax X e f) (hN : X.N[j]? = some x := by rfl) (hv : Vis X.env.scope x := by first | exact Or.inl rfl | exact Or.inr (Or.inl rfl) | exact Or.inr (Or.inr rfl)) (hd : (x == ("__debug__" : Str)) = false := by decide) (hcd : (x == ("__classdict__" : Str)) = false := by decide)
    (hs : starEach [e, .Name x p1] X.env = (false, eval e X.env) :: starEach [.Name x p1] X.env := by rfl) (hs2 : starEach [.Name x p1] X.env = (false, eval (.Name x p1) X.env) :: starEach [] X.env := by rfl) :
    MO ax X (.List [e, .Name x p1] p2) (mDealNew f j) := let ⟨_, p, s⟩ := h; ⟨_, pe_lst (pa_cons p (pa_cons (pe_var hN hv hd hcd) pa_nil hs2) hs), so_dealNew s⟩
end
end Lp

namespace Lp
open PySem PySem.Spec L2
set_option autoImplicit false
section
variable {ax : Ax} {X : Cx} {K : PySem.W.Frag} {W : Wd} {B B' H H' : Hp} {σ : L2.St} {env : Env'} {pos p1 p2 p3 p4 : Pos} {a b c e : Expr} {f h l : M D} {i : Nat} {io : List Nat} {x : Str} {v : V} {r : Sl}
/-! ### chains, signs, is -/
def mChain (g g' : D → D → Option D) (f h l : M D) : M D := fun e => (f e).bind fun x e => (h e).bind fun y e => (ofO (g x y) e).bind fun z e => match z with
  | .bool true => (l e).bind fun w => ofO (g' y w)
  | .bool false => .ok (.bool false) e
  | _ => .stuck
theorem sd_chain {r r' : R2} {g g' : D → D → Option D} {ta tb tc : TE} (p : Pure2 K r g) (p' : Pure2 K r' g') (hf : SD K ax ta f) (hh : SD K ax tb h) (hl : SD K ax tc l) : SD K ax (tChain r r' ta tb tc) (mChain g g' f h l) := fun W B H σ env Q si gd =>
  hf W B H σ env _ si (Good.bind gd fun a e v B1 H1 s1 si1 r1 g1 => hh W B1 H1 σ e _ si1 (Good.bind g1 fun a2 e2 v2 B2 H2 s2 si2 r2 g2 => by
    cases q : g a a2 with
    | none => rw [q] at g2; exact g2.elim
    | some d =>
      rw [q] at g2
      refine p B2 H2 v v2 a a2 d _ si2.same (r1.mono s2) r2 q fun z B3 H3 gr rz => ?_
      have si3 := si2.more gr
      have g3 := Good.up gr.b g2
      cases d with
      | bool k =>
        refine ⟨k, rz.bool_inv, ?_⟩
        cases k with
        | true =>
          rw [if_pos rfl]
          refine hl W B3 H3 σ e2 _ si3 (Good.bind g3 fun a3 e3 v3 B4 H4 s4 si4 r4 g4 => ?_)
          obtain ⟨d, hd, q⟩ := g4.ofO si4
          exact p' B4 H4 v2 v3 a2 a3 d Q si4.same ((r2.mono gr.b).mono s4) r4 hd q
        | false =>
          rw [if_neg (by decide)]
          exact g3 (.bl false) B3 H3 (fun _ _ e => e) si3 (.bl false)
      | _ => exact g3.elim))
theorem md_chain {op op' : CmpOp} {r r' : R2} {g g' : D → D → Option D} (ho : OpR X (compareOp op) r) (ho' : OpR X (compareOp op') r') (p : Pure2 X.K r g) (p' : Pure2 X.K r' g') (ha : MD ax X a f) (hb : MD ax X b h) (hc : MD ax X c l)
    (hm : lastMarks [op, op'] [b, c] = false := by with_unfolding_all rfl) : MD ax X (.Compare a [op, op'] [b, c] pos) (mChain g g' f h l) := let ⟨_, q, s⟩ := ha; let ⟨_, q1, s1⟩ := hb; let ⟨_, q2, s2⟩ := hc; ⟨_, pe_chain ho ho' q q1 q2 hm, sd_chain p p' s s1 s2⟩
theorem mt_chain {op op' : CmpOp} {r r' : R2} {g g' : D → D → Option D} (ho : OpR X (compareOp op) r) (ho' : OpR X (compareOp op') r') (p : Pure2 X.K r g) (p' : Pure2 X.K r' g') (ha : MD ax X a f) (hb : MD ax X b h) (hc : MD ax X c l)
    (hm : lastMarks [op, op'] [b, c] = false := by with_unfolding_all rfl) : MT ax X (.Compare a [op, op'] [b, c] pos) (mTst (mChain g g' f h l)) := let ⟨_, q, s⟩ := ha; let ⟨_, q1, s1⟩ := hb; let ⟨_, q2, s2⟩ := hc; ⟨_, pt_chain ho ho' q q1 q2 hm, st_tst (sd_chain p p' s s1 s2)⟩
def negD : D → Option D
  | .int i => some (.int (-i))
  | _ => none
theorem pure_neg : Pure1 K (rU fun i => .int (-i)) negD := fun B H x a d Q s rx e q => by
  cases a with
  | int i => cases e; rw [rx.int_inv]; exact ⟨i, rfl, pure_val s q (.int _)⟩
  | _ => cases e
def isNoneD : D → Option D
  | .none => some (.bool true)
  | _ => some (.bool false)
def isnNoneD : D → Option D
  | .none => some (.bool false)
  | _ => some (.bool true)
theorem Rp.isNone {v : V} {d : D} (r : Rp K B v d) : decide (v = .non) = (match d with | .none => true | _ => false) := by cases r <;> rfl
theorem sd_isNone {te : TE} (hf : SD K ax te f) : SD K ax (tOp rIsN te (tC .non)) (mUn isNoneD f) := fun W B H σ env Q si gd =>
  hf W B H σ env _ si (Good.bind gd fun a e v B1 H1 s1 si1 r1 g1 => by
    refine ⟨rfl, ?_⟩
    rw [r1.isNone]
    cases a <;> exact g1 _ B1 H1 (fun _ _ e => e) si1 (.bl _))
theorem sd_isnNone {te : TE} (hf : SD K ax te f) : SD K ax (tOp rNotN te (tC .non)) (mUn isnNoneD f) := fun W B H σ env Q si gd =>
  hf W B H σ env _ si (Good.bind gd fun a e v B1 H1 s1 si1 r1 g1 => by
    refine ⟨rfl, ?_⟩
    rw [r1.isNone]
    cases a <;> exact g1 _ B1 H1 (fun _ _ e => e) si1 (.bl _))
theorem md_isNone {j : Nat} (ha : MD ax X a f) : MD ax X (.Compare a [.Is] [.Constant .none j p1] pos) (mUn isNoneD f) := let ⟨_, p, s⟩ := ha; ⟨_, pe_cmpR op_isN1 p pe_non (nomark _), sd_isNone s⟩
theorem mt_isNone {j : Nat} (ha : MD ax X a f) : MT ax X (.Compare a [.Is] [.Constant .none j p1] pos) (mTst (mUn isNoneD f)) := let ⟨_, p, s⟩ := ha; ⟨_, pt_cmpR op_isN1 p pe_non (nomark _), st_tst (sd_isNone s)⟩
theorem md_isnNone {j : Nat} (ha : MD ax X a f) : MD ax X (.Compare a [.IsNot] [.Constant .none j p1] pos) (mUn isnNoneD f) := let ⟨_, p, s⟩ := ha; ⟨_, pe_cmpR op_notN1 p pe_non (nomark _), sd_isnNone s⟩
theorem mt_isnNone {j : Nat} (ha : MD ax X a f) : MT ax X (.Compare a [.IsNot] [.Constant .none j p1] pos) (mTst (mUn isnNoneD f)) := let ⟨_, p, s⟩ := ha; ⟨_, pt_cmpR op_notN1 p pe_non (nomark _), st_tst (sd_isnNone s)⟩
def isBoolD (k : Bool) : D → Option D
  | .bool b => some (.bool (decide (b = k)))
  | _ => none
def isnBoolD (k : Bool) : D → Option D
  | .bool b => some (.bool (!decide (b = k)))
  | _ => none
theorem sd_isBool {te : TE} {k : Bool} (hf : SD K ax te f) : SD K ax (tOp rIsB te (tC (.bl k))) (mUn (isBoolD k) f) := fun W B H σ env Q si gd =>
  hf W B H σ env _ si (Good.bind gd fun a e v B1 H1 s1 si1 r1 g1 => by
    cases a with
    | bool b => exact ⟨b, k, r1.bool_inv, rfl, g1 _ B1 H1 (fun _ _ e => e) si1 (.bl _)⟩
    | _ => exact g1.elim)
theorem sd_isnBool {te : TE} {k : Bool} (hf : SD K ax te f) : SD K ax (tOp rNotB te (tC (.bl k))) (mUn (isnBoolD k) f) := fun W B H σ env Q si gd =>
  hf W B H σ env _ si (Good.bind gd fun a e v B1 H1 s1 si1 r1 g1 => by
    cases a with
    | bool b => exact ⟨b, k, r1.bool_inv, rfl, g1 _ B1 H1 (fun _ _ e => e) si1 (.bl _)⟩
    | _ => exact g1.elim)
theorem md_isBool {j : Nat} {k : Bool} (ha : MD ax X a f) : MD ax X (.Compare a [.Is] [.Constant (.bool k) j p1] pos) (mUn (isBoolD k) f) := let ⟨_, p, s⟩ := ha; ⟨_, pe_cmpR op_isBl p pe_bl (nomark _), sd_isBool s⟩
theorem mt_isBool {j : Nat} {k : Bool} (ha : MD ax X a f) : MT ax X (.Compare a [.Is] [.Constant (.bool k) j p1] pos) (mTst (mUn (isBoolD k) f)) := let ⟨_, p, s⟩ := ha; ⟨_, pt_cmpR op_isBl p pe_bl (nomark _), st_tst (sd_isBool s)⟩
theorem md_isnBool {j : Nat} {k : Bool} (ha : MD ax X a f) : MD ax X (.Compare a [.IsNot] [.Constant (.bool k) j p1] pos) (mUn (isnBoolD k) f) := let ⟨_, p, s⟩ := ha; ⟨_, pe_cmpR op_notBl p pe_bl (nomark _), sd_isnBool s⟩
theorem mt_isnBool {j : Nat} {k : Bool} (ha : MD ax X a f) : MT ax X (.Compare a [.IsNot] [.Constant (.bool k) j p1] pos) (mTst (mUn (isnBoolD k) f)) := let ⟨_, p, s⟩ := ha; ⟨_, pt_cmpR op_notBl p pe_bl (nomark _), st_tst (sd_isnBool s)⟩
/-! ### powers, shifts -/
def powD : D → D → Option D := opI powOk fun i j => .int (i ^ j.toNat)
theorem pure_pow : Pure2 K (rI CPow fun i j => .int (i ^ j.toNat)) powD := pure_rI (fun i j h => by
  unfold powOk at h
  simp only [Bool.and_eq_true, decide_eq_true_eq] at h
  exact ⟨h.1.1, h.1.2, h.2⟩) fun _ i j => .int _
def shlD : D → D → Option D := opI powOk fun i j => .int (i * 2 ^ j.toNat)
theorem pure_shl : Pure2 K (rI CPow fun i j => .int (i * 2 ^ j.toNat)) shlD := pure_rI (fun i j h => by
  unfold powOk at h
  simp only [Bool.and_eq_true, decide_eq_true_eq] at h
  exact ⟨h.1.1, h.1.2, h.2⟩) fun _ i j => .int _
/-! ### a name's own list given away, written -/
def mMv (i : Nat) : M Sl := fun e => match e[i]? with
  | some (.dat d) => .ok (.dat d) e
  | some (.own ds) => .ok (.own ds) (e.set i .un)
  | _ => .stuck
theorem SI.move {ds : List D} (h : SI K W B H σ env) (e : env[i]? = some (.own ds)) : ∃ v, σ[i]? = some (some v) ∧ SIV K W B H σ (env.set i .un) v (.own ds) := by
  obtain ⟨g, F, s⟩ := h
  rcases s.at_ i _ e with q | ⟨v, ev, sv⟩
  · cases q
  · refine ⟨v, ev, g, _, F i, s.turn (Fv := []) (.inl rfl) (by simp) (by simp), sv, s.there i, fun j a ha hv => ?_⟩
    by_cases q : j = i
    · rw [if_pos q] at ha; simp at ha
    · rw [if_neg q] at ha; exact q (s.dis j i a ha hv)
theorem so_mv : SO K ax (tVar i) (mMv i) := fun W B H σ env Q si gd => by
  unfold mMv at gd
  cases q : env[i]? with
  | none => rw [q] at gd; exact gd.elim
  | some s =>
    rw [q] at gd
    cases s with
    | dat d =>
      obtain ⟨v, ev, r⟩ := si.at_dat q
      exact ⟨v, ev, gd v B H (fun _ _ e => e) (si.dat r)⟩
    | own ds =>
      obtain ⟨v, ev, siv⟩ := si.move q
      exact ⟨v, ev, gd v B H (fun _ _ e => e) siv⟩
    | _ => exact gd.elim
theorem mo_mv (i : Nat) (hN : X.N[i]? = some x := by rfl) (hv : Vis X.env.scope x := by first | exact Or.inl rfl | exact Or.inr (Or.inl rfl) | exact Or.inr (Or.inr rfl)) (hd : (x == ("__debug__" : Str)) = false := by decide) (hcd : (x == ("__classdict__" : Str)) = false := by decide) : MO ax X (.Name x pos) (mMv i) := ⟨_, pe_var hN hv hd hcd, so_mv⟩
def mOd (f : M D) : M Sl := fun e => (f e).bind fun d e => .ok (.dat d) e
theorem mo_d (h : MD ax X e f) : MO ax X e (mOd f) := let ⟨_, p, s⟩ := h; ⟨_, p, fun W B H σ env Q si gd => s W B H σ env Q si (GoodO.bind gd fun d e v B1 H1 s1 si1 r1 g1 => g1 v B1 H1 (fun _ _ e => e) (si1.dat r1))⟩
abbrev mRetV (i : Nat) : M Ctl := mRetO (mMv i)
theorem SI.own_at {ds : List D} (h : SI K W B H σ env) (e : env[i]? = some (.own ds)) : ∃ p vs, σ[i]? = some (some (.ref p)) ∧ H p = some (.lst vs) ∧ RpAll K B vs ds ∧ vs.length ≤ sizeLine := let ⟨p, vs, a, b, c, d, _⟩ := h.write e; ⟨p, vs, a, b, c, d⟩
/-- x.append(e) -/
def mApp (i : Nat) (f : M D) : M Ctl := fun e0 => match e0[i]? with
  | some (.own _) => (f e0).bind fun d e => match e[i]? with
    | some (.own ds) => if ds.length < 16777216 then .ok .next (e.set i (.own (ds ++ [d]))) else .stuck
    | _ => .stuck
  | _ => .stuck
theorem tyV_own {p : Addr} {vs : List V} (h : H p = some (.lst vs)) : tyV K "list" (.ref p) H := .inl ⟨rfl, _, SqL.of h⟩
theorem ss_app {te : TE} (hf : SD K ax te f) : SS K ax io (tDrop (tBM K "list" rAppend (tVar i) (tCons te tNil))) (mApp i f) := fun W B H σ env E hio si gd => by
  unfold mApp at gd
  cases q : env[i]? with
  | none => rw [q] at gd; exact gd.elim
  | some s =>
    rw [q] at gd
    cases s with
    | own ds0 =>
      obtain ⟨p, vs, ev, hp, -, -⟩ := si.own_at q
      refine ⟨_, ev, tyV_own hp, hf W B H σ env _ si (GoodS.bind gd fun d e v B1 H1 s1 si1 r1 g1 => ?_)⟩
      cases q1 : e[i]? with
      | none => rw [q1] at g1; exact g1.elim
      | some s =>
        rw [q1] at g1
        cases s with
        | own ds =>
          obtain ⟨p2, us, ev2, hp2, rs, z, w⟩ := si1.write q1
          rw [ev] at ev2
          cases ev2
          dsimp only at g1
          split at g1
          · rename_i hl
            have hz : us.length < sizeLine := by rw [sizeLine_eq, rs.length]; exact hl
            refine ⟨p, us, v, rfl, rfl, hp2, hz, ?_⟩
            exact g1 σ B1 _ (fun _ _ e => e) (w _ _ (rs.append (.cons r1 .nil)) (by rw [List.length_append]; exact hz))
          · exact g1.elim
        | _ => exact g1.elim
    | _ => exact gd.elim
theorem ms_app (i : Nat) (h : MD ax X e f) (hN : X.N[i]? = some x := by rfl) (hv : Vis X.env.scope x := by first | exact Or.inl rfl | exact Or.inr (Or.inl rfl) | exact Or.inr (Or.inr rfl)) (hd : (x == ("__debug__" : Str)) = false := by decide) (hcd : (x == ("__classdict__" : Str)) = false := by decide)
    (hb : attributeBase (.Name x p1) "append" X.env (eval (.Name x p1) X.env) = eval (.Name x p1) X.env := by rfl) (hl : (p2.endLine == p3.line) = true := by rfl)
    (hfew : ((backTo p3 (starEach [e] X.env)).all (fun x => !x.1) && (backToKw p3 (keywordEach [] X.env)).all (fun x => x.1.isSome) && decide ([e].length + ([] : List Keyword).length + (if ([] : List Keyword).isEmpty then 0 else 1) < 30)) = true := by rfl)
    (hs : starEach [e] X.env = (false, eval e X.env) :: starEach [] X.env := by rfl) (hp : (backTo p3 (starEach [] X.env)).any (·.1) = false := by rfl) (hsw : swapsWith (.Call (.Attribute (.Name x p1) "append" p2) [e] [] p3) none pos.line X.env = pure false := by rfl) :
    MS ax io X (.Expr (.Call (.Attribute (.Name x p1) "append" p2) [e] [] p3) pos) (mApp i f) :=
  let ⟨_, p, s⟩ := h; ⟨_, ps_expr (pe_bm PySem.F.plainAttrs_list PySem.F.slot_list_append PySem.F.type_list_append mt_append (pe_var hN hv hd hcd) (pa_cons p pa_nil hs) hb hfew hl hs hp) hsw, ss_app s⟩
/-- x.extend(e), e data -/
def mExt (i : Nat) (f : M D) : M Ctl := fun e0 => match e0[i]? with
  | some (.own _) => (f e0).bind fun d e => match e[i]?, d with
    | some (.own ds), .list es => if ds.length + es.length ≤ 16777216 then .ok .next (e.set i (.own (ds ++ es))) else .stuck
    | _, _ => .stuck
  | _ => .stuck
theorem ss_ext {te : TE} (hf : SD K ax te f) : SS K ax io (tDrop (tBM K "list" rExtend (tVar i) (tCons te tNil))) (mExt i f) := fun W B H σ env E hio si gd => by
  unfold mExt at gd
  cases q : env[i]? with
  | none => rw [q] at gd; exact gd.elim
  | some s =>
    rw [q] at gd
    cases s with
    | own ds0 =>
      obtain ⟨p, vs, ev, hp, -, -⟩ := si.own_at q
      refine ⟨_, ev, tyV_own hp, hf W B H σ env _ si (GoodS.bind gd fun d e v B1 H1 s1 si1 r1 g1 => ?_)⟩
      cases q1 : e[i]? with
      | none => rw [q1] at g1; exact g1.elim
      | some s =>
        rw [q1] at g1
        cases s with
        | own ds =>
          cases d with
          | list es =>
            obtain ⟨p2, us, ev2, hp2, rs, z, w⟩ := si1.write q1
            rw [ev] at ev2
            cases ev2
            dsimp only at g1
            split at g1
            · rename_i hl
              cases r1 with
              | lst hb hz rr =>
                rename_i a zs
                have hz' : us.length + zs.length ≤ sizeLine := by rw [sizeLine_eq, rs.length, rr.length]; exact hl
                refine ⟨p, a, us, zs, rfl, rfl, hp2, si1.same _ _ hb, hz', ?_⟩
                exact g1 σ B1 _ (fun _ _ e => e) (w _ _ (rs.append rr) (by rw [List.length_append]; exact hz'))
            · exact g1.elim
          | _ => exact g1.elim
        | _ => exact g1.elim
    | _ => exact gd.elim
theorem ms_ext (i : Nat) (h : MD ax X e f) (hN : X.N[i]? = some x := by rfl) (hv : Vis X.env.scope x := by first | exact Or.inl rfl | exact Or.inr (Or.inl rfl) | exact Or.inr (Or.inr rfl)) (hd : (x == ("__debug__" : Str)) = false := by decide) (hcd : (x == ("__classdict__" : Str)) = false := by decide)
    (hb : attributeBase (.Name x p1) "extend" X.env (eval (.Name x p1) X.env) = eval (.Name x p1) X.env := by rfl) (hl : (p2.endLine == p3.line) = true := by rfl)
    (hfew : ((backTo p3 (starEach [e] X.env)).all (fun x => !x.1) && (backToKw p3 (keywordEach [] X.env)).all (fun x => x.1.isSome) && decide ([e].length + ([] : List Keyword).length + (if ([] : List Keyword).isEmpty then 0 else 1) < 30)) = true := by rfl)
    (hs : starEach [e] X.env = (false, eval e X.env) :: starEach [] X.env := by rfl) (hp : (backTo p3 (starEach [] X.env)).any (·.1) = false := by rfl) (hsw : swapsWith (.Call (.Attribute (.Name x p1) "extend" p2) [e] [] p3) none pos.line X.env = pure false := by rfl) :
    MS ax io X (.Expr (.Call (.Attribute (.Name x p1) "extend" p2) [e] [] p3) pos) (mExt i f) :=
  let ⟨_, p, s⟩ := h; ⟨_, ps_expr (pe_bm PySem.F.plainAttrs_list PySem.F.slot_list_extend PySem.F.type_list_extend mt_extend (pe_var hN hv hd hcd) (pa_cons p pa_nil hs) hb hfew hl hs hp) hsw, ss_ext s⟩
/-- x[k] = e -/
def mSetIx (i : Nat) (k f : M D) : M Ctl := fun e0 => (f e0).bind fun d e1 => match e1[i]? with
  | some (.own _) => (k e1).bind fun j e => match e[i]?, j with
    | some (.own ds), .int j => (match ixN ds.length j with
      | some n => .ok .next (e.set i (.own (ds.set n d)))
      | none => .stuck)
    | _, _ => .stuck
  | _ => .stuck
theorem ss_setIx {te tk : TE} {k : M D} (hf : SD K ax te f) (hk : SD K ax tk k) : SS K ax io (tAsg te (gSub (tVar i) tk rSetL)) (mSetIx i k f) := fun W B H σ env E hio si gd =>
  hf W B H σ env _ si (GoodS.bind gd fun d e1 v B1 H1 s1 si1 r1 g1 => by
    cases q : e1[i]? with
    | none => rw [q] at g1; exact g1.elim
    | some s =>
      rw [q] at g1
      cases s with
      | own ds0 =>
        obtain ⟨p, vs, ev, hp, -, -⟩ := si1.own_at q
        refine ⟨_, ev, hk W B1 H1 σ e1 _ si1 (GoodS.bind g1 fun j e u B2 H2 s2 si2 r2 g2 => ?_)⟩
        cases q1 : e[i]? with
        | none => rw [q1] at g2; exact g2.elim
        | some s =>
          rw [q1] at g2
          cases s with
          | own ds =>
            cases j with
            | int j =>
              obtain ⟨p2, us, ev2, hp2, rs, z, w⟩ := si2.write q1
              rw [ev] at ev2
              cases ev2
              dsimp only at g2
              cases q2 : ixN ds.length j with
              | none => rw [q2] at g2; exact g2.elim
              | some n =>
                rw [q2] at g2
                refine ⟨p, us, j, n, rfl, r2.int_inv, hp2, by rw [rs.length]; exact q2, ?_⟩
                exact g2 σ B2 _ (fun _ _ e => e) (w _ _ (RpAll.set (r1.mono s2) n rs) (by rw [List.length_set]; exact z))
            | _ => exact g2.elim
          | _ => exact g2.elim
      | _ => exact g1.elim)
theorem ms_setIx (i : Nat) {k : M D} (hk : MD ax X b k) (h : MD ax X e f) (hN : X.N[i]? = some x := by rfl) (hv : Vis X.env.scope x := by first | exact Or.inl rfl | exact Or.inr (Or.inl rfl) | exact Or.inr (Or.inr rfl)) (hd : (x == ("__debug__" : Str)) = false := by decide) (hcd : (x == ("__classdict__" : Str)) = false := by decide)
    (hs : swapsWithSole [.Subscript (.Name x p1) b p3] e pos.line X.env = pure false := by rfl) (hw : swappedStores [.Subscript (.Name x p1) b p3] e X.env = pure none := by rfl)
    (ha : ∀ v, assign (.Subscript (.Name x p1) b p3) X.env v = (do
      let ov ← holding [v] (eval (.Name x p1) X.env)
      let iv ← holding [v, ov] (eval b X.env)
      standAt p3
      holding [v, ov, iv] (setItem ov iv v)
      release [v, ov, iv] []) := by intro _; rfl) (h1 : (assignEach [.Subscript (.Name x p1) b p3] X.env).map (·.2) = [assign (.Subscript (.Name x p1) b p3) X.env] := by rfl) :
    MS ax io X (.Assign [.Subscript (.Name x p1) b p3] e pos) (mSetIx i k f) :=
  let ⟨_, p, s⟩ := h; let ⟨_, p', s'⟩ := hk; ⟨_, ps_asg p (pg_sub (pe_var hN hv hd hcd) p' set_list ha) hs hw h1, ss_setIx s s'⟩
/-- x.pop() -/
def mPop (i : Nat) : M D := fun e => match e[i]? with
  | some (.own ds) => match ds.getLast? with
    | some d => .ok d (e.set i (.own ds.dropLast))
    | none => .stuck
  | _ => .stuck
theorem RpAll.dropLast {vs : List V} {ds : List D} (h : RpAll K B vs ds) : RpAll K B vs.dropLast ds.dropLast := by
  induction vs generalizing ds with
  | nil => cases h; exact .nil
  | cons v vs ih =>
    cases h with
    | cons r rs =>
      cases rs with
      | nil => exact .nil
      | cons r' rs' => exact .cons r (ih (.cons r' rs'))
theorem sd_pop : SD K ax (tBM0 K "list" rPop (tVar i)) (mPop i) := fun W B H σ env Q si gd => by
  unfold mPop at gd
  cases q : env[i]? with
  | none => rw [q] at gd; exact gd.elim
  | some s =>
    rw [q] at gd
    cases s with
    | own ds =>
      obtain ⟨p, vs, ev, hp, rs, z, w⟩ := si.write q
      dsimp only at gd
      cases q1 : ds.getLast? with
      | none => rw [q1] at gd; exact gd.elim
      | some d =>
        rw [q1] at gd
        rw [List.getLast?_eq_getElem?, ← rs.length] at q1
        obtain ⟨v, ev2, rv⟩ := rs.get' q1
        exact ⟨_, ev, tyV_own hp, p, vs, v, rfl, rfl, hp, ev2, gd v B _ (fun _ _ e => e) (w _ _ rs.dropLast (by rw [List.length_dropLast]; omega)) rv⟩
    | _ => exact gd.elim
theorem md_pop (i : Nat) (hN : X.N[i]? = some x := by rfl) (hv : Vis X.env.scope x := by first | exact Or.inl rfl | exact Or.inr (Or.inl rfl) | exact Or.inr (Or.inr rfl)) (hd : (x == ("__debug__" : Str)) = false := by decide) (hcd : (x == ("__classdict__" : Str)) = false := by decide)
    (hb : attributeBase (.Name x p1) "pop" X.env (eval (.Name x p1) X.env) = eval (.Name x p1) X.env := by rfl) (hl : (p2.endLine == p3.line) = true := by rfl) : MD ax X (.Call (.Attribute (.Name x p1) "pop" p2) [] [] p3) (mPop i) :=
  ⟨_, pe_bm0 PySem.F.plainAttrs_list PySem.F.slot_list_pop PySem.F.type_list_pop mt_pop (pe_var hN hv hd hcd) hb hl, sd_pop⟩
/-- x.pop(e) -/
def mPopAt (i : Nat) (k : M D) : M D := fun e0 => match e0[i]? with
  | some (.own _) => (k e0).bind fun j e => match e[i]?, j with
    | some (.own ds), .int j => if inR j = true then (match seqIndex? j ds.length with
      | some n => (match ds[n]? with
        | some d => .ok d (e.set i (.own (ds.eraseIdx n)))
        | none => .stuck)
      | none => .stuck) else .stuck
    | _, _ => .stuck
  | _ => .stuck
theorem RpAll.erase : ∀ {vs : List V} {ds : List D} {n : Nat}, RpAll K B vs ds → RpAll K B (vs.eraseIdx n) (ds.eraseIdx n)
  | _, _, _, .nil => .nil
  | _, _, 0, .cons _ rs => rs
  | _, _, _ + 1, .cons r' rs => .cons r' (RpAll.erase rs)
theorem sd_popAt {tk : TE} {k : M D} (hk : SD K ax tk k) : SD K ax (tBM K "list" rPopAt (tVar i) (tCons tk tNil)) (mPopAt i k) := fun W B H σ env Q si gd => by
  unfold mPopAt at gd
  cases q : env[i]? with
  | none => rw [q] at gd; exact gd.elim
  | some s =>
    rw [q] at gd
    cases s with
    | own ds0 =>
      obtain ⟨p, vs, ev, hp, -, -⟩ := si.own_at q
      refine ⟨_, ev, tyV_own hp, hk W B H σ env _ si (Good.bind gd fun j e u B1 H1 s1 si1 r1 g1 => ?_)⟩
      cases q1 : e[i]? with
      | none => rw [q1] at g1; exact g1.elim
      | some s =>
        rw [q1] at g1
        cases s with
        | own ds =>
          cases j with
          | int j =>
            obtain ⟨p2, us, ev2, hp2, rs, z, w⟩ := si1.write q1
            rw [ev] at ev2
            cases ev2
            dsimp only at g1
            split at g1
            · rename_i hr
              have hr' := inR.of hr
              cases q2 : seqIndex? j ds.length with
              | none => rw [q2] at g1; exact g1.elim
              | some n =>
                rw [q2] at g1
                dsimp only at g1
                cases q3 : ds[n]? with
                | none => rw [q3] at g1; exact g1.elim
                | some d =>
                  rw [q3] at g1
                  obtain ⟨v, ev3, rv⟩ := rs.get' q3
                  refine ⟨p, us, j, n, v, rfl, by rw [r1.int_inv], hp2, by omega, by omega, by rw [rs.length]; exact q2, ev3, ?_⟩
                  exact g1 v B1 _ (fun _ _ e => e) (w _ _ (RpAll.erase rs) (by have := List.length_eraseIdx_le us n; omega)) rv
            · exact g1.elim
          | _ => exact g1.elim
        | _ => exact g1.elim
    | _ => exact gd.elim
theorem md_popAt (i : Nat) (h : MD ax X e f) (hN : X.N[i]? = some x := by rfl) (hv : Vis X.env.scope x := by first | exact Or.inl rfl | exact Or.inr (Or.inl rfl) | exact Or.inr (Or.inr rfl)) (hd : (x == ("__debug__" : Str)) = false := by decide) (hcd : (x == ("__classdict__" : Str)) = false := by decide)
    (hb : attributeBase (.Name x p1) "pop" X.env (eval (.Name x p1) X.env) = eval (.Name x p1) X.env := by rfl) (hl : (p2.endLine == p3.line) = true := by rfl)
    (hfew : ((backTo p3 (starEach [e] X.env)).all (fun x => !x.1) && (backToKw p3 (keywordEach [] X.env)).all (fun x => x.1.isSome) && decide ([e].length + ([] : List Keyword).length + (if ([] : List Keyword).isEmpty then 0 else 1) < 30)) = true := by rfl)
    (hs : starEach [e] X.env = (false, eval e X.env) :: starEach [] X.env := by rfl) (hp : (backTo p3 (starEach [] X.env)).any (·.1) = false := by rfl) : MD ax X (.Call (.Attribute (.Name x p1) "pop" p2) [e] [] p3) (mPopAt i f) :=
  let ⟨_, p, s⟩ := h; ⟨_, pe_bm PySem.F.plainAttrs_list PySem.F.slot_list_pop PySem.F.type_list_pop mt_popAt (pe_var hN hv hd hcd) (pa_cons p pa_nil hs) hb hfew hl hs hp, sd_popAt s⟩
end
end Lp

namespace Lp
open PySem PySem.Spec L2
set_option autoImplicit false
/-! ### the laws' common draws -/
def m__law_draw : M Ctl := mSeq (mAsg 2 (mFz (mComp [4] (mIt (mFz (mScrTake 0 48))) (gtN 4) mYes (mB absD (mCons (mB intD (mCons (mVar 4) mNil)) mNil))))) (mSeq (mAsg 3 (mOp addD (mC (.int 7919)) (mOp mulD (mC (.int 104729)) (mVar 1)))) (mSeq (mFor (mIt (mVar 2)) (gtN 4) (mAsg 3 (mOp modD (mB intD (mCons (mOp addD (mOp addD (mOp mulD (mVar 3) (mC (.int 48271))) (mOp modD (mVar 4) (mC (.int 2147483549)))) (mC (.int 11))) mNil)) (mC (.int 2147483647)))) []) (mRetO (mDealNew (mRev (mFz (mComp [4] (mIt (mVar 2)) (gtN 4) (mTst (mOp geD (mVar 4) (mOp powD (mC (.int 10)) (mC (.int 18))))) (mVar 4)))) 3))))
def g__law_draw : Env' → Out Sl := gOf 5 2 m__law_draw
def m__law_any : M Ctl := mSeq (mWhile 64 (mAnd (mDealNe 0) (mTst (mOp eqD (mDealLast 0) (mC (.int 0))))) (mDo (mDealPop 0)) []) (mSeq (mIf (mDealNe 0) (mSeq (mAsg 2 (mB intD (mCons (mDealPop 0) mNil))) (mSeq (mDealApp 0 2 1) (mRet (mOp modD (mVar 2) (mVar 1))))) mNext) (mSeq (mDealSetB 0 (mOp modD (mB intD (mCons (mOp addD (mOp mulD (mDealB 0) (mC (.int 40693))) (mC (.int 71))) mNil)) (mC (.int 2147483647)))) (mRet (mOp modD (mB intD (mCons (mOp divD (mDealB 0) (mC (.int 64))) mNil)) (mVar 1)))))
def g__law_any : Env' → Out Sl := gOf 3 2 m__law_any
def m__law_of : M Ctl := mRet (mOp idxD (mVar 1) (mFz (mCallIO 0 g__law_any (mCons (mB lenD (mCons (mVar 1) mNil)) mNil))))
def g__law_of : Env' → Out Sl := gOf 2 2 m__law_of
end Lp

namespace Lp
open PySem PySem.Spec L2
set_option autoImplicit false
/-! ### what a mirror ends in -/
@[irreducible] def Wp {α : Type} (o : Out α) (Q : α → Env' → Prop) : Prop := match o with
  | .ok a e => Q a e
  | _ => False
section
variable {α β : Type} {Q Q' : α → Env' → Prop} {R : β → Env' → Prop} {S : Ctl → Env' → Prop} {T : Sl → Env' → Prop} {V : D → Env' → Prop} {U : Bool → Env' → Prop} {Z : List D → Env' → Prop} {e : Env'} {f h l : M D} {o : Out α} {fa : M (List D)} {i : Nat} {d x y : D}
theorem Wp.mono {o : Out α} (h : Wp o Q) (hq : ∀ a e, Q a e → Q' a e) : Wp o Q' := by
  cases o with
  | ok a e => with_unfolding_all exact hq a e h
  | stuck => with_unfolding_all exact h
  | err k d e => with_unfolding_all exact h
theorem Wp.ex {o : Out α} (h : Wp o Q) : ∃ a e, o = .ok a e ∧ Q a e := by
  cases o with
  | ok a e => with_unfolding_all exact ⟨a, e, rfl, h⟩
  | stuck => with_unfolding_all exact h.elim
  | err k d e => with_unfolding_all exact h.elim
theorem Wp.of {o : Out α} {a : α} (h : o = .ok a e) (q : Q a e) : Wp o Q := by rw [h]; with_unfolding_all exact q
@[simp] theorem wp_ok {a : α} : Wp (.ok a e) Q ↔ Q a e := by with_unfolding_all exact Iff.rfl
@[simp] theorem wp_stuck : Wp (.stuck : Out α) Q ↔ False := by with_unfolding_all exact Iff.rfl
@[simp] theorem wp_bind {o : Out β} {k : β → Env' → Out α} : Wp (o.bind k) Q ↔ Wp o fun b e => Wp (k b e) Q := by cases o <;> with_unfolding_all exact Iff.rfl
@[simp] theorem wp_ofO_some : Wp (ofO (some d) e) V ↔ V d e := by with_unfolding_all exact Iff.rfl
@[simp] theorem wp_ofO_none : Wp (ofO none e) V ↔ False := by with_unfolding_all exact Iff.rfl
@[simp] theorem wp_ofO_if {c : Prop} [Decidable c] : Wp (ofO (if c then some d else none) e) V ↔ c ∧ V d e := by
  by_cases h : c
  · rw [if_pos h]; with_unfolding_all exact ⟨fun q => ⟨h, q⟩, fun q => q.2⟩
  · rw [if_neg h]; with_unfolding_all exact ⟨fun q => q.elim, fun q => h q.1⟩
@[simp] theorem wp_c : Wp (mC d e) V ↔ V d e := by with_unfolding_all exact Iff.rfl
@[simp] theorem wp_un {g : D → Option D} : Wp (mUn g f e) V ↔ Wp (f e) fun x e => Wp (ofO (g x) e) V := wp_bind
@[simp] theorem wp_op {g : D → D → Option D} : Wp (mOp g f h e) V ↔ Wp (f e) fun x e => Wp (h e) fun y e => Wp (ofO (g x y) e) V := by
  unfold mOp; rw [wp_bind]; cases f e with
  | ok a e => with_unfolding_all exact wp_bind
  | _ => with_unfolding_all exact Iff.rfl
@[simp] theorem wp_b {g : List D → Option D} : Wp (mB g fa e) V ↔ Wp (fa e) fun xs e => Wp (ofO (g xs) e) V := wp_bind
@[simp] theorem wp_nil : Wp (mNil e) Z ↔ Z [] e := by with_unfolding_all exact Iff.rfl
@[simp] theorem wp_cons {r : M (List D)} : Wp (mCons f r e) Z ↔ Wp (f e) fun x e => Wp (r e) fun xs e => Z (x :: xs) e := by unfold mCons; simp only [wp_bind, wp_ok]
@[simp] theorem wp_tst : Wp (mTst f e) U ↔ Wp (f e) fun x e => match x with | .bool b => U b e | _ => False := by
  unfold mTst; rw [wp_bind]; cases f e with
  | ok a e => cases a <;> with_unfolding_all exact Iff.rfl
  | _ => with_unfolding_all exact Iff.rfl
@[simp] theorem wp_and {c t : M Bool} : Wp (mAnd c t e) U ↔ Wp (c e) fun x e => if x = true then Wp (t e) U else U false e := by
  unfold mAnd; rw [wp_bind]; cases c e with
  | ok a e => cases a <;> with_unfolding_all exact Iff.rfl
  | _ => with_unfolding_all exact Iff.rfl
@[simp] theorem wp_or {c t : M Bool} : Wp (mOr c t e) U ↔ Wp (c e) fun x e => if x = true then U true e else Wp (t e) U := by
  unfold mOr; rw [wp_bind]; cases c e with
  | ok a e => cases a <;> with_unfolding_all exact Iff.rfl
  | _ => with_unfolding_all exact Iff.rfl
@[simp] theorem wp_not {c : M Bool} : Wp (mNot c e) U ↔ Wp (c e) fun x e => U (!x) e := by unfold mNot; simp only [wp_bind, wp_ok]
@[simp] theorem wp_ofT {c : M Bool} : Wp (mOfT c e) V ↔ Wp (c e) fun x e => V (.bool x) e := by unfold mOfT; simp only [wp_bind, wp_ok]
@[simp] theorem wp_ifE {c : M Bool} : Wp (mIfE c f h e) V ↔ Wp (c e) fun x e => if x = true then Wp (f e) V else Wp (h e) V := by
  unfold mIfE; rw [wp_bind]; cases c e with
  | ok a e => cases a <;> with_unfolding_all exact Iff.rfl
  | _ => with_unfolding_all exact Iff.rfl
@[simp] theorem wp_andV : Wp (mAndV f h e) V ↔ Wp (f e) fun x e => match x with | .bool b => if b = true then Wp (h e) V else V (.bool false) e | _ => False := by
  unfold mAndV; rw [wp_bind]; cases f e with
  | ok a e => cases a with
    | bool b => cases b <;> with_unfolding_all exact Iff.rfl
    | _ => with_unfolding_all exact Iff.rfl
  | _ => with_unfolding_all exact Iff.rfl
@[simp] theorem wp_orV : Wp (mOrV f h e) V ↔ Wp (f e) fun x e => match x with | .bool b => if b = true then V (.bool true) e else Wp (h e) V | _ => False := by
  unfold mOrV; rw [wp_bind]; cases f e with
  | ok a e => cases a with
    | bool b => cases b <;> with_unfolding_all exact Iff.rfl
    | _ => with_unfolding_all exact Iff.rfl
  | _ => with_unfolding_all exact Iff.rfl
@[simp] theorem wp_notV : Wp (mNotV f e) V ↔ Wp (f e) fun x e => match x with | .bool b => V (.bool (!b)) e | _ => False := by
  unfold mNotV; rw [wp_bind]; cases f e with
  | ok a e => cases a <;> with_unfolding_all exact Iff.rfl
  | _ => with_unfolding_all exact Iff.rfl
@[simp] theorem wp_isi {T : Ty} : Wp (mIsi T f e) V ↔ Wp (f e) fun x e => isDc x = false ∧ V (.bool (isi T x)) e := by
  unfold mIsi; rw [wp_bind]; cases f e with
  | ok a e =>
    by_cases h : isDc a = false
    · simp only [wp_ok, if_pos h]; with_unfolding_all exact ⟨fun q => ⟨h, q⟩, fun q => q.2⟩
    · simp only [wp_ok, if_neg h]; with_unfolding_all exact ⟨fun q => q.elim, fun q => h q.1⟩
  | _ => with_unfolding_all exact Iff.rfl
@[simp] theorem wp_tup : Wp (mTup fa e) V ↔ Wp (fa e) fun xs e => xs.length ≤ 16777216 ∧ V (.tuple xs) e := by
  unfold mTup; rw [wp_bind]; cases fa e with
  | ok a e =>
    by_cases h : a.length ≤ 16777216
    · simp only [wp_ok, if_pos h]; with_unfolding_all exact ⟨fun q => ⟨h, q⟩, fun q => q.2⟩
    · simp only [wp_ok, if_neg h]; with_unfolding_all exact ⟨fun q => q.elim, fun q => h q.1⟩
  | _ => with_unfolding_all exact Iff.rfl
@[simp] theorem wp_lst : Wp (mLst fa e) T ↔ Wp (fa e) fun xs e => xs.length ≤ 16777216 ∧ T (.own xs) e := by
  unfold mLst; rw [wp_bind]; cases fa e with
  | ok a e =>
    by_cases h : a.length ≤ 16777216
    · simp only [wp_ok, if_pos h]; with_unfolding_all exact ⟨fun q => ⟨h, q⟩, fun q => q.2⟩
    · simp only [wp_ok, if_neg h]; with_unfolding_all exact ⟨fun q => q.elim, fun q => h q.1⟩
  | _ => with_unfolding_all exact Iff.rfl
@[simp] theorem wp_bO {g : List D → Option (List D)} : Wp (mBO g fa e) T ↔ Wp (fa e) fun xs e => match g xs with | some ys => T (.own ys) e | none => False := by
  unfold mBO; rw [wp_bind]; cases fa e with
  | ok a e => simp only [wp_ok]; cases g a <;> with_unfolding_all exact Iff.rfl
  | _ => with_unfolding_all exact Iff.rfl
@[simp] theorem wp_fz {m : M Sl} : Wp (mFz m e) V ↔ Wp (m e) fun r e => match slD r with | some d => V d e | none => False := by
  unfold mFz; rw [wp_bind]; cases m e with
  | ok a e => simp only [wp_ok]; cases slD a <;> with_unfolding_all exact Iff.rfl
  | _ => with_unfolding_all exact Iff.rfl
@[simp] theorem slD_dat : slD (.dat d) = some d := rfl
@[simp] theorem slD_own {ds : List D} : slD (.own ds) = some (.list ds) := rfl
@[simp] theorem wp_od : Wp (mOd f e) T ↔ Wp (f e) fun d e => T (.dat d) e := by unfold mOd; simp only [wp_bind, wp_ok]
@[simp] theorem wp_chain {g g' : D → D → Option D} : Wp (mChain g g' f h l e) V ↔ Wp (f e) fun x e => Wp (h e) fun y e => Wp (ofO (g x y) e) fun z e => match z with
    | .bool b => if b = true then Wp (l e) fun w e => Wp (ofO (g' y w) e) V else V (.bool false) e
    | _ => False := by
  unfold mChain
  simp only [wp_bind]
  cases f e with
  | ok a e =>
    simp only [wp_ok]
    cases h e with
    | ok b e =>
      simp only [wp_ok]
      cases ofO (g a b) e with
      | ok z e =>
        simp only [wp_ok]
        cases z with
        | bool k => cases k with
          | true => with_unfolding_all exact wp_bind
          | false => with_unfolding_all exact Iff.rfl
        | _ => with_unfolding_all exact Iff.rfl
      | _ => with_unfolding_all exact Iff.rfl
    | _ => with_unfolding_all exact Iff.rfl
  | _ => with_unfolding_all exact Iff.rfl
/-! statements -/
@[simp] theorem wp_next : Wp (mNext e) S ↔ S .next e := by with_unfolding_all exact Iff.rfl
@[simp] theorem wp_brk : Wp (mBrk e) S ↔ S .brk e := by with_unfolding_all exact Iff.rfl
@[simp] theorem wp_cnt : Wp (mCnt e) S ↔ S .cnt e := by with_unfolding_all exact Iff.rfl
@[simp] theorem wp_retN : Wp (mRetN e) S ↔ S (.ret (.dat .none)) e := by with_unfolding_all exact Iff.rfl
theorem wp_seq {a b : M Ctl} : Wp (mSeq a b e) S ↔ Wp (a e) fun c e => match c with | .next => Wp (b e) S | c => S c e := by
  unfold mSeq
  cases a e with
  | ok c e => cases c <;> with_unfolding_all exact Iff.rfl
  | _ => with_unfolding_all exact Iff.rfl
@[simp] theorem wp_asg : Wp (mAsg i f e) S ↔ Wp (f e) fun d e => S .next (e.set i (.dat d)) := by unfold mAsg; simp only [wp_bind, wp_ok]
@[simp] theorem wp_asgO {m : M Sl} : Wp (mAsgO i m e) S ↔ Wp (m e) fun r e => S .next (e.set i r) := by unfold mAsgO; cases m e <;> with_unfolding_all exact Iff.rfl
@[simp] theorem wp_ret : Wp (mRet f e) S ↔ Wp (f e) fun d e => S (.ret (.dat d)) e := by unfold mRet; simp only [wp_bind, wp_ok]
@[simp] theorem wp_retO {m : M Sl} : Wp (mRetO m e) S ↔ Wp (m e) fun r e => S (.ret r) e := by unfold mRetO; cases m e <;> with_unfolding_all exact Iff.rfl
@[simp] theorem wp_do : Wp (mDo f e) S ↔ Wp (f e) fun _ e => S .next e := by unfold mDo; simp only [wp_bind, wp_ok]
@[simp] theorem wp_if {c : M Bool} {a b : M Ctl} : Wp (mIf c a b e) S ↔ Wp (c e) fun x e => if x = true then Wp (a e) S else Wp (b e) S := by
  unfold mIf; rw [wp_bind]; cases c e with
  | ok x e => cases x <;> with_unfolding_all exact Iff.rfl
  | _ => with_unfolding_all exact Iff.rfl
@[simp] theorem wp_asgT {t : D → Env' → Option Env'} : Wp (mAsgT f t e) S ↔ Wp (f e) fun d e => match t d e with | some e => S .next e | none => False := by
  unfold mAsgT; rw [wp_bind]; cases f e with
  | ok a e => simp only [wp_ok]; cases t a e <;> with_unfolding_all exact Iff.rfl
  | _ => with_unfolding_all exact Iff.rfl
@[simp] theorem gtN_eq : gtN i d e = some (e.set i (.dat d)) := rfl
@[simp] theorem gtNil_eq : gtNil [] e = some e := rfl
@[simp] theorem gtCons_eq {t : D → Env' → Option Env'} {u : List D → Env' → Option Env'} {ds : List D} : gtCons t u (d :: ds) e = (t d e).bind fun e => u ds e := rfl
@[simp] theorem gtTup_eq {u : List D → Env' → Option Env'} {ds : List D} : gtTup u (.tuple ds) e = u ds e := rfl
/-! calls -/
theorem wp_call {g : Env' → Out Sl} : Wp (mCall g fa e) T ↔ Wp (fa e) fun ds e => Wp (g (ds.map .dat)) fun r _ => T r e := by
  unfold mCall; rw [wp_bind]; cases fa e with
  | ok a e => simp only [wp_ok]; cases g (a.map .dat) <;> with_unfolding_all exact Iff.rfl
  | _ => with_unfolding_all exact Iff.rfl
@[simp] theorem wp_perm {n : Nat} {is : List Nat} : Wp (mPerm n is fa e) Z ↔ Wp (fa e) fun ds e => ds.length = n ∧ Z (is.map fun i => ds.getD i .none) e := by
  unfold mPerm; rw [wp_bind]; cases fa e with
  | ok a e =>
    by_cases h : a.length = n
    · simp only [wp_ok, if_pos h]; with_unfolding_all exact ⟨fun q => ⟨h, q⟩, fun q => q.2⟩
    · simp only [wp_ok, if_neg h]; with_unfolding_all exact ⟨fun q => q.elim, fun q => h q.1⟩
  | _ => with_unfolding_all exact Iff.rfl
theorem wp_gOf {L n : Nat} {m : M Ctl} (hn : e.length = n) : Wp (gOf L n m e) T ↔ Wp (m (e ++ List.replicate (L - n) .un)) fun c e => match c with | .ret r => T r e | .next => T (.dat .none) e | _ => False := by
  unfold gOf
  rw [if_pos hn]
  cases m (e ++ List.replicate (L - n) .un) with
  | ok c e => cases c <;> with_unfolding_all exact Iff.rfl
  | _ => with_unfolding_all exact Iff.rfl
/-! ### operations on ints -/
variable {a b : Int}
@[simp] theorem addD_int : addD (.int a) (.int b) = some (.int (a + b)) := rfl
@[simp] theorem subD_int : subD (.int a) (.int b) = some (.int (a - b)) := rfl
theorem mulD_int (h : a.natAbs.log2 + b.natAbs.log2 < 1000000) : mulD (.int a) (.int b) = some (.int (a * b)) := by
  show (if mulOk a b = true then some (PyData.int (a * b)) else none) = _
  with_unfolding_all exact if_pos (decide_eq_true h)
theorem log2_le {n : Nat} {k : Nat} (h : n < 2 ^ k) : n.log2 ≤ k := by
  by_cases z : n = 0
  · subst z; simp
  · with_unfolding_all exact Nat.le_of_lt ((Nat.log2_lt z).mpr h)
theorem mulD_ok (ha : a.natAbs < 2 ^ 200) (hb : b.natAbs < 2 ^ 200) : mulD (.int a) (.int b) = some (.int (a * b)) := mulD_int (by have := log2_le ha; have := log2_le hb; omega)
theorem divD_int (h : 0 < b) (h2 : b.natAbs < 2 ^ 200) : divD (.int a) (.int b) = some (.int (a / b)) := by
  show (if divOk a b = true then some (PyData.int (a / b)) else none) = _
  have := log2_le h2
  rw [if_pos (by unfold divOk; simp only [Bool.and_eq_true, decide_eq_true_eq]; omega)]
theorem modD_int (h : 0 < b) : modD (.int a) (.int b) = some (.int (a % b)) := by
  show (if modOk a b = true then some (PyData.int (a % b)) else none) = _
  with_unfolding_all exact if_pos (decide_eq_true h)
theorem powD_int (h : 0 ≤ b) (h2 : b ≤ 1000000) (h3 : a.natAbs < 2 ^ 64) : powD (.int a) (.int b) = some (.int (a ^ b.toNat)) := by
  show (if powOk a b = true then some (PyData.int (a ^ b.toNat)) else none) = _
  rw [if_pos (by unfold powOk; simp [h, h2, h3])]
@[simp] theorem ltD_int : ltD (.int a) (.int b) = some (.bool (decide (a < b))) := rfl
@[simp] theorem leD_int : leD (.int a) (.int b) = some (.bool (decide (a ≤ b))) := rfl
@[simp] theorem gtD_int : gtD (.int a) (.int b) = some (.bool (decide (b < a))) := rfl
@[simp] theorem geD_int : geD (.int a) (.int b) = some (.bool (decide (b ≤ a))) := rfl
@[simp] theorem negD_int : negD (.int a) = some (.int (-a)) := rfl
@[simp] theorem intD_int : intD [.int a] = some (.int a) := rfl
@[simp] theorem absD_int : absD [.int a] = some (.int (if a < 0 then -a else a)) := rfl
@[simp] theorem eqD_int : eqD (.int a) (.int b) = some (.bool (decide (a = b))) := by
  show (if (SeqAt.shaped (.int a) && SeqAt.shaped (.int b)) = true then some (PyData.bool (PyData.eqv (.int a) (.int b))) else none) = _
  rw [if_pos (by simp [SeqAt.shaped, PyData.canLay0, PyData.depth])]
  simp only [PyData.eqv]
  by_cases h : a = b <;> simp [h]
@[simp] theorem neD_int : neD (.int a) (.int b) = some (.bool (!decide (a = b))) := by
  show (if (SeqAt.shaped (.int a) && SeqAt.shaped (.int b)) = true then some (PyData.bool (!PyData.eqv (.int a) (.int b))) else none) = _
  rw [if_pos (by simp [SeqAt.shaped, PyData.canLay0, PyData.depth])]
  simp only [PyData.eqv]
  by_cases h : a = b <;> simp [h]
/-! ### loops -/
theorem wp_forE {t : D → Env' → Option Env'} {body : M Ctl} {fs : List Nat} : ∀ {ds : List D} {e : Env'} (I : Nat → Env' → Prop) (n : Nat), I n e →
    (∀ j x e, ds[j]? = some x → I (n + j) e → ∃ e1, t x e = some e1 ∧ Wp (body e1) fun c e2 => match c with | .next => I (n + j + 1) (forgetL fs e2) | .cnt => I (n + j + 1) (forgetL fs e2) | .brk => S .next (forgetL fs e2) | .ret r => S (.ret r) e2) →
    (∀ e, I (n + ds.length) e → S .next e) → Wp (forE t body fs ds e) S
  | [], e, I, n, h0, _, hq => by with_unfolding_all exact hq e h0
  | x :: xs, e, I, n, h0, hs, hq => by
    obtain ⟨e1, ht, hb⟩ := hs 0 x e rfl h0
    unfold forE
    rw [ht]
    dsimp only
    have tail : ∀ e2, I (n + 1) e2 → Wp (forE t body fs xs e2) S := fun e2 hi => wp_forE I (n + 1) hi (fun j y e hy hi => by
      have hi' : I (n + (j + 1)) e := by rw [Nat.add_comm j 1, ← Nat.add_assoc]; with_unfolding_all exact hi
      obtain ⟨e1, h1, h2⟩ := hs (j + 1) y e hy hi'
      with_unfolding_all refine ⟨e1, h1, h2.mono fun c e2 q => ?_⟩
      have en : n + (j + 1) + 1 = n + 1 + j + 1 := by omega
      cases c <;> first | (rw [en] at q; with_unfolding_all exact q) | with_unfolding_all exact q) (fun e hi => hq e (by rw [List.length_cons, Nat.add_comm xs.length 1, ← Nat.add_assoc]; with_unfolding_all exact hi))
    cases q : body e1 with
    | stuck => rw [q] at hb; with_unfolding_all exact hb
    | err k d e => rw [q] at hb; with_unfolding_all exact hb
    | ok c e2 =>
      rw [q] at hb
      cases c with
      | next => with_unfolding_all exact tail _ hb
      | cnt => with_unfolding_all exact tail _ hb
      | brk => with_unfolding_all exact hb
      | ret r => with_unfolding_all exact hb
theorem wp_forN {t : D → Env' → Option Env'} {body : M Ctl} {ds : List D} {e : Env'} (J : Nat → Env' → Prop) (h0 : J 0 e) (hs : ∀ j x e, ds[j]? = some x → J j e → ∃ e1, t x e = some e1 ∧ Wp (body e1) fun k e2 => k = .next ∧ J (j + 1) e2)
    (hq : ∀ e, J ds.length e → S .next e) : Wp (forE t body [] ds e) S := by
  with_unfolding_all refine wp_forE J 0 h0 (fun j x e hx hi => ?_) fun e hi => hq e (by rw [Nat.zero_add] at hi; with_unfolding_all exact hi)
  rw [Nat.zero_add] at hi ⊢
  obtain ⟨e1, h1, h2⟩ := hs j x e hx hi
  with_unfolding_all refine ⟨e1, h1, h2.mono fun k e2 q => ?_⟩
  obtain ⟨rfl, q⟩ := q
  with_unfolding_all exact q
theorem wp_for {it : M (List D)} {t : D → Env' → Option Env'} {body : M Ctl} {fs : List Nat} : Wp (mFor it t body fs e) S ↔ Wp (it e) fun ds e => Wp (forE t body fs ds e) S := wp_bind
theorem wp_compE {vs : List Nat} {t : D → Env' → Option Env'} {c : M Bool} {f : M D} : ∀ {ds acc : List D} {e : Env'} (I : Nat → List D → Env' → Prop) (n : Nat), I n acc e →
    (∀ j x acc e, ds[j]? = some x → I (n + j) acc e → ∃ e1, t x e = some e1 ∧ Wp (c e1) fun b e2 => if b = true then Wp (f e2) (fun d e3 => I (n + j + 1) (acc ++ [d]) (forgetL vs e3)) else I (n + j + 1) acc (forgetL vs e2)) →
    (∀ acc e, I (n + ds.length) acc e → Z acc e) → Wp (compE vs t c f ds acc e) Z
  | [], acc, e, I, n, h0, _, hq => by with_unfolding_all exact hq acc e h0
  | x :: xs, acc, e, I, n, h0, hs, hq => by
    obtain ⟨e1, ht, hb⟩ := hs 0 x acc e rfl h0
    unfold compE
    rw [ht]
    dsimp only
    have tail : ∀ acc2 e2, I (n + 1) acc2 e2 → Wp (compE vs t c f xs acc2 e2) Z := fun acc2 e2 hi => wp_compE I (n + 1) hi (fun j y acc e hy hi => by
      have en : n + (j + 1) = n + 1 + j := by omega
      have hi' : I (n + (j + 1)) acc e := by rw [en]; with_unfolding_all exact hi
      obtain ⟨e1, h1, h2⟩ := hs (j + 1) y acc e hy hi'
      rw [en] at h2
      with_unfolding_all exact ⟨e1, h1, h2⟩) (fun acc e hi => hq acc e (by rw [List.length_cons, Nat.add_comm xs.length 1, ← Nat.add_assoc]; with_unfolding_all exact hi))
    cases q : c e1 with
    | stuck => rw [q] at hb; with_unfolding_all exact hb.elim
    | err k d e => rw [q] at hb; with_unfolding_all exact hb.elim
    | ok b e2 =>
      rw [q] at hb
      simp only [Out.quiet, Out.bind_ok]
      cases b with
      | false => with_unfolding_all exact tail _ _ hb
      | true =>
        simp only [if_true] at hb ⊢
        cases q2 : f e2 with
        | stuck => simp only [wp_ok, if_true, q2] at hb; with_unfolding_all exact hb.elim
        | err k d e => simp only [wp_ok, if_true, q2] at hb; with_unfolding_all exact hb.elim
        | ok d e3 =>
          simp only [wp_ok, if_true, q2] at hb
          with_unfolding_all exact tail _ _ hb
theorem wp_comp {vs : List Nat} {it : M (List D)} {t : D → Env' → Option Env'} {c : M Bool} {f : M D} : Wp (mComp vs it t c f e) T ↔ Wp (it e) fun ds e => ds.length ≤ 16777216 ∧ Wp (compE vs t c f ds [] (forgetL vs e)) fun acc e2 => T (.own acc) (restoreL vs e e2) := by
  unfold mComp; rw [wp_bind]; cases it e with
  | ok ds e =>
    by_cases h : ds.length ≤ 16777216
    · simp only [wp_ok, if_pos h, wp_bind]; with_unfolding_all exact ⟨fun q => ⟨h, q⟩, fun q => q.2⟩
    · simp only [wp_ok, if_neg h]; with_unfolding_all exact ⟨fun q => q.elim, fun q => h q.1⟩
  | _ => with_unfolding_all exact Iff.rfl
/-- a comprehension whose parts leave the env (its own names aside) as it is -/
theorem wp_compP {vs : List Nat} {t : D → Env' → Option Env'} {c : M Bool} {f : M D} {ds : List D} {e : Env'} (p : D → Bool) (g : D → D) (hs : ∀ x ∈ ds, ∃ e1, t x e = some e1 ∧ Wp (c e1) fun b e2 => b = p x ∧ if p x = true then Wp (f e2) (fun d e3 => d = g x ∧ forgetL vs e3 = e) else forgetL vs e2 = e)
    (hq : Z ((ds.filter p).map g) e) : Wp (compE vs t c f ds [] e) Z := by
  with_unfolding_all refine wp_compE (fun n acc e' => e' = e ∧ acc = ((ds.take n).filter p).map g) 0 ⟨rfl, rfl⟩ (fun j x acc e' hx hi => ?_) fun acc e' hi => ?_
  · obtain ⟨rfl, rfl⟩ := hi
    obtain ⟨e1, h1, h2⟩ := hs x (List.mem_of_getElem? hx)
    with_unfolding_all refine ⟨e1, h1, h2.mono fun b e2 q => ?_⟩
    obtain ⟨rfl, q⟩ := q
    have et : ds.take (0 + j + 1) = ds.take (0 + j) ++ [x] := by
      rw [Nat.zero_add, List.take_succ, hx]; rfl
    rw [et, List.filter_append, List.map_append]
    cases hp : p x with
    | true =>
      rw [hp] at q
      simp only [if_true] at q ⊢
      with_unfolding_all refine q.mono fun d e3 q => ?_
      obtain ⟨rfl, q⟩ := q
      with_unfolding_all exact ⟨q, by simp [hp]⟩
    | false =>
      rw [hp] at q
      simp only [Bool.false_eq_true, if_false] at q ⊢
      with_unfolding_all exact ⟨q, by simp [hp]⟩
  · obtain ⟨rfl, rfl⟩ := hi
    rw [Nat.zero_add, List.take_length]
    with_unfolding_all exact hq
/-- the same over a typed list -/
theorem wp_compM {γ : Type} (φ : γ → D) {vs : List Nat} {t : D → Env' → Option Env'} {c : M Bool} {f : M D} (xs : List γ) {e : Env'} (p : γ → Bool) (g : γ → D) (hs : ∀ x ∈ xs, ∃ e1, t (φ x) e = some e1 ∧ Wp (c e1) fun b e2 => b = p x ∧ if p x = true then Wp (f e2) (fun d e3 => d = g x ∧ forgetL vs e3 = e) else forgetL vs e2 = e)
    (hq : Z ((xs.filter p).map g) e) : Wp (compE vs t c f (xs.map φ) [] e) Z := by
  with_unfolding_all refine wp_compE (fun n acc e' => e' = e ∧ acc = ((xs.take n).filter p).map g) 0 ⟨rfl, rfl⟩ (fun j x acc e' hx hi => ?_) fun acc e' hi => ?_
  · obtain ⟨rfl, rfl⟩ := hi
    rw [List.getElem?_map] at hx
    obtain ⟨y, hy, rfl⟩ := Option.map_eq_some_iff.mp hx
    obtain ⟨e1, h1, h2⟩ := hs y (List.mem_of_getElem? hy)
    with_unfolding_all refine ⟨e1, h1, h2.mono fun b e2 q => ?_⟩
    obtain ⟨rfl, q⟩ := q
    have et : xs.take (0 + j + 1) = xs.take (0 + j) ++ [y] := by
      rw [Nat.zero_add, List.take_succ, hy]; rfl
    rw [et, List.filter_append, List.map_append]
    cases hp : p y with
    | true =>
      rw [hp] at q
      simp only [if_true] at q ⊢
      with_unfolding_all refine q.mono fun d e3 q => ?_
      obtain ⟨rfl, q⟩ := q
      with_unfolding_all exact ⟨q, by simp [hp]⟩
    | false =>
      rw [hp] at q
      simp only [Bool.false_eq_true, if_false] at q ⊢
      with_unfolding_all exact ⟨q, by simp [hp]⟩
  · obtain ⟨rfl, rfl⟩ := hi
    rw [Nat.zero_add, List.length_map, List.take_length]
    with_unfolding_all exact hq
/-- without a condition -/
theorem wp_compA {γ : Type} (φ : γ → D) {vs : List Nat} {t : D → Env' → Option Env'} {f : M D} (xs : List γ) {e : Env'} (g : γ → D) (hs : ∀ x ∈ xs, ∃ e1, t (φ x) e = some e1 ∧ Wp (f e1) (fun d e3 => d = g x ∧ forgetL vs e3 = e))
    (hq : Z (xs.map g) e) : Wp (compE vs t mYes f (xs.map φ) [] e) Z := by
  with_unfolding_all refine wp_compM φ xs (fun _ => true) g (fun x hx => ?_) (by rw [List.filter_eq_self.mpr (by simp)]; with_unfolding_all exact hq)
  obtain ⟨e1, h1, h2⟩ := hs x hx
  with_unfolding_all exact ⟨e1, h1, rfl, h2⟩
@[simp] theorem wp_yes : Wp (mYes e) U ↔ U true e := by with_unfolding_all exact Iff.rfl
@[simp] theorem wp_it : Wp (mIt f e) Z ↔ Wp (f e) fun d e => match seqD d with | some ds => Z ds e | none => False := by
  unfold mIt; rw [wp_bind]; cases f e with
  | ok a e => simp only [wp_ok]; cases seqD a <;> with_unfolding_all exact Iff.rfl
  | _ => with_unfolding_all exact Iff.rfl
@[simp] theorem seqD_list {ds : List D} : seqD (.list ds) = some ds := rfl
@[simp] theorem seqD_tuple {ds : List D} : seqD (.tuple ds) = some ds := rfl
@[simp] theorem wp_itO {g : List D → Option (List D)} : Wp (mItO g fa e) Z ↔ Wp (fa e) fun xs e => match g xs with | some ys => Z ys e | none => False := by
  unfold mItO; rw [wp_bind]; cases fa e with
  | ok a e => simp only [wp_ok]; cases g a <;> with_unfolding_all exact Iff.rfl
  | _ => with_unfolding_all exact Iff.rfl
theorem wp_whileE {c : M Bool} {body : M Ctl} {fs : List Nat} (I : Nat → Env' → Prop) (hs : ∀ n e, I n e → Wp (c e) fun b e1 => if b = true then Wp (body e1) (fun k e2 => match k with
      | .next => ∃ m, m < n ∧ I m (forgetL fs e2) | .cnt => ∃ m, m < n ∧ I m (forgetL fs e2) | .brk => S .next (forgetL fs e2) | .ret r => S (.ret r) e2) else S .next e1) : ∀ {n N : Nat} {e : Env'}, I n e → n < N → Wp (whileE c body fs N e) S := by
  intro n N
  induction N generalizing n with
  | zero => intro e _ h; omega
  | succ N ih =>
    intro e h hn
    have q := hs n e h
    unfold whileE
    rw [wp_bind]
    with_unfolding_all refine q.mono fun b e1 q => ?_
    cases b with
    | false => with_unfolding_all exact q
    | true =>
      simp only [if_true] at q ⊢
      cases z : body e1 with
      | stuck => rw [z] at q; with_unfolding_all exact q
      | err k d e => rw [z] at q; with_unfolding_all exact q
      | ok k e2 =>
        rw [z, wp_ok] at q
        cases k with
        | next => obtain ⟨m, hm, hi⟩ := q; with_unfolding_all exact ih hi (by omega)
        | cnt => obtain ⟨m, hm, hi⟩ := q; with_unfolding_all exact ih hi (by omega)
        | brk => with_unfolding_all exact q
        | ret r => with_unfolding_all exact q
end
end Lp

namespace Lp
open PySem PySem.Spec L2
set_option autoImplicit false
/-- a source of draws -/
structure DealOk (c : List Int) (b : Int) : Prop where
  few : c.length ≤ 48
  pos : ∀ x ∈ c, 0 ≤ x
  b0 : 0 ≤ b
  b1 : b < 2147483647
section
variable {V : D → Env' → Prop} {S : Ctl → Env' → Prop} {T : Sl → Env' → Prop} {e : Env'} {i : Nat} {c : List Int} {b : Int}
@[simp] theorem wp_var : Wp (mVar i e) V ↔ match e[i]? with
  | some (.dat d) => V d e
  | some (.own ds) => V (.list ds) (e.set i (.dat (.list ds)))
  | some (.dcT kvs) => V (dctD kvs) (e.set i (.dat (dctD kvs)))
  | _ => False := by
  unfold mVar
  cases e[i]? with
  | none => with_unfolding_all exact Iff.rfl
  | some s => cases s <;> with_unfolding_all exact Iff.rfl
@[simp] theorem wp_scrTake {n : Nat} : Wp (mScrTake i n e) T ↔ match e[i]? with
  | some (.scr ns) => T (.own ((ns.take n).map PyData.int)) e
  | _ => False := by
  unfold mScrTake
  cases e[i]? with
  | none => with_unfolding_all exact Iff.rfl
  | some s => cases s <;> with_unfolding_all exact Iff.rfl
@[simp] theorem wp_rev {f : M D} : Wp (mRev f e) T ↔ Wp (f e) fun d e => match d with | .list ds => T (.own ds.reverse) e | _ => False := by
  unfold mRev; rw [wp_bind]; cases f e with
  | ok a e => cases a <;> with_unfolding_all exact Iff.rfl
  | _ => with_unfolding_all exact Iff.rfl
theorem intsD_map : ∀ c : List Int, intsD (c.map PyData.int) = some c
  | [] => rfl
  | x :: c => by show (intsD (c.map PyData.int)).map (x :: ·) = _; rw [intsD_map c]; rfl
theorem wp_dealNew {f : M Sl} {j : Nat} : Wp (mDealNew f j e) T ↔ Wp (f e) fun r e => ∃ c b, r = .own (c.map PyData.int) ∧ e[j]? = some (.dat (.int b)) ∧ T (.deal c b) e := by
  unfold mDealNew
  cases f e with
  | stuck => with_unfolding_all exact Iff.rfl
  | err k d e => with_unfolding_all exact Iff.rfl
  | ok r e =>
    constructor
    · intro h
      cases r with
      | own ds =>
        dsimp only at h
        split at h
        · rename_i c b h1 h2
          refine wp_ok.mpr ⟨c, b, ?_, h2, by with_unfolding_all exact h⟩
          congr 1
          have : ∀ (ds : List D) (c : List Int), intsD ds = some c → ds = c.map PyData.int := by
            intro ds
            induction ds with
            | nil => intro c h; cases h; rfl
            | cons d ds ih =>
              intro c h
              cases d with
              | int i =>
                unfold intsD at h
                obtain ⟨cs, e1, e2⟩ := Option.map_eq_some_iff.mp h
                subst e2
                rw [ih cs e1]; rfl
              | _ => simp [intsD] at h
          with_unfolding_all exact this ds c h1
        · with_unfolding_all exact h.elim
      | _ => with_unfolding_all exact h.elim
    · intro hh
      rw [wp_ok] at hh
      obtain ⟨c, b, rfl, hj, h⟩ := hh
      dsimp only
      rw [intsD_map, hj]
      with_unfolding_all exact h
theorem draw_spec (ns : List Int) (salt : Int) (h0 : 0 ≤ salt) (h1 : salt < 1000) : Wp (g__law_draw [.scr ns, .dat (.int salt)]) fun r _ => ∃ c b, r = .deal c b ∧ DealOk c b := by
  refine (wp_gOf (by rfl)).mpr ?_
  simp only [m__law_draw, List.cons_append, List.nil_append, List.replicate, wp_seq, wp_asg, wp_fz, wp_comp, wp_it, wp_scrTake, List.getElem?_cons_zero, slD_own, seqD_list, forgetL, List.foldl, List.set, wp_c, wp_op, wp_var, List.getElem?_cons_succ]
  refine ⟨by simp; omega, ?_⟩
  refine wp_compA PyData.int (ns.take 48) (fun i => .int (if i < 0 then -i else i)) (fun x hx => ⟨_, rfl, by simp [forgetL]⟩) ?_
  have hm : mulD (.int 104729) (.int salt) = some (.int (104729 * salt)) := mulD_ok (by decide) (by omega)
  have hcs : ∃ cs : List Int, cs.length ≤ 48 ∧ (∀ x ∈ cs, 0 ≤ x) ∧ (ns.take 48).map (fun i => PyData.int (if i < 0 then -i else i)) = cs.map PyData.int := by
    refine ⟨(ns.take 48).map fun i => if i < 0 then -i else i, by simp; omega, fun x hx => ?_, by rw [List.map_map]; rfl⟩
    obtain ⟨i, _, rfl⟩ := List.mem_map.mp hx
    split <;> omega
  obtain ⟨cs, hl, hp, hc⟩ := hcs
  rw [hc]
  simp only [restoreL, List.foldl, List.getElem?_cons_zero, List.getElem?_cons_succ, List.set, hm, wp_ofO_some, addD_int, wp_for, wp_it, wp_var, seqD_list]
  refine wp_forE (fun n e => ∃ b x, e = [.scr ns, .dat (.int salt), .dat (.list (cs.map PyData.int)), .dat (.int b), x] ∧ 0 ≤ b ∧ b < 2147483647) 0 ⟨_, _, rfl, by omega, by omega⟩ (fun j x e hx hi => ?_) fun e hi => ?_
  · obtain ⟨b, y, rfl, hb0, hb1⟩ := hi
    obtain ⟨i, hi, rfl⟩ := List.mem_map.mp (List.mem_of_getElem? hx)
    refine ⟨_, rfl, ?_⟩
    have hmul : mulD (.int b) (.int 48271) = some (.int (b * 48271)) := mulD_ok (by omega) (by decide)
    simp [hmul, modD_int, forgetL]
    omega
  · obtain ⟨b, y, rfl, hb0, hb1⟩ := hi
    have hpow : powD (.int 10) (.int 18) = some (.int (10 ^ 18)) := powD_int (by decide) (by decide) (by decide)
    simp only [wp_retO, wp_dealNew, wp_rev, wp_fz, wp_comp, wp_it, wp_var, List.getElem?_cons_zero, List.getElem?_cons_succ, seqD_list]
    refine ⟨by simp; omega, wp_compM PyData.int cs (fun i => decide (10 ^ 18 ≤ i)) PyData.int (fun x hx => ⟨_, rfl, by simp [forgetL, hpow]⟩) ?_⟩
    · refine ⟨((cs.filter fun i => decide (10 ^ 18 ≤ i))).reverse, b, ?_, by cases y <;> rfl, _, _, rfl, ?_⟩
      · simp [List.filter_map, Function.comp_def]
      · refine ⟨?_, fun x hx => ?_, hb0, hb1⟩
        · rw [List.length_reverse]
          with_unfolding_all exact Nat.le_trans (List.length_filter_le _ _) hl
        · have := List.mem_reverse.mp hx
          with_unfolding_all exact hp x (List.mem_filter.mp this).1
@[simp] theorem wp_dealNe {U : Bool → Env' → Prop} : Wp (mDealNe i e) U ↔ match e[i]? with | some (.deal c _) => U (!c.isEmpty) e | _ => False := by
  unfold mDealNe
  cases e[i]? with
  | none => with_unfolding_all exact Iff.rfl
  | some s => cases s <;> with_unfolding_all exact Iff.rfl
theorem wp_dealLast {c : List Int} {b x : Int} (h : e[i]? = some (.deal c b)) (hc : c.getLast? = some x) : Wp (mDealLast i e) V ↔ V (.int x) e := by
  unfold mDealLast; rw [h]; dsimp only; rw [hc]; with_unfolding_all exact Iff.rfl
theorem wp_dealPop {c : List Int} {b x : Int} (h : e[i]? = some (.deal c b)) (hc : c.getLast? = some x) : Wp (mDealPop i e) V ↔ V (.int x) (e.set i (.deal c.dropLast b)) := by
  unfold mDealPop; rw [h]; dsimp only; rw [hc]; with_unfolding_all exact Iff.rfl
@[simp] theorem wp_dealB : Wp (mDealB i e) V ↔ match e[i]? with | some (.deal _ b) => V (.int b) e | _ => False := by
  unfold mDealB
  cases e[i]? with
  | none => with_unfolding_all exact Iff.rfl
  | some s => cases s <;> with_unfolding_all exact Iff.rfl
theorem any_spec {k : Int} (h : DealOk c b) (h0 : 0 < k) (h1 : k.natAbs < 2 ^ 200) : Wp (g__law_any [.deal c b, .dat (.int k)]) fun r e => ∃ n c' b', r = .dat (.int n) ∧ 0 ≤ n ∧ n < k ∧ e.getD 0 .un = .deal c' b' ∧ DealOk c' b' := by
  refine (wp_gOf (by rfl)).mpr ?_
  simp only [m__law_any, List.cons_append, List.nil_append, List.replicate, wp_seq, mWhile]
  refine wp_whileE (fun n e => ∃ c, n = c.length ∧ e = [.deal c b, .dat (.int k), .un] ∧ DealOk c b) (fun n e hi => ?_) ⟨c, rfl, rfl, h⟩ (by have := h.few; omega)
  obtain ⟨c, rfl, rfl, h⟩ := hi
  cases hc : c.getLast? with
  | none =>
    have hn : c = [] := List.getLast?_eq_none_iff.mp hc
    subst hn
    have hm : mulD (.int b) (.int 40693) = some (.int (b * 40693)) := mulD_ok (by have := h.b0; have := h.b1; omega) (by decide)
    simp only [wp_and, wp_dealNe, List.getElem?_cons_zero, List.isEmpty_nil, Bool.not_true, Bool.false_eq_true, if_false, wp_if, wp_next, mDealSetB, wp_bind, wp_op, wp_b, wp_cons, wp_dealB, wp_c, hm, wp_ofO_some, addD_int, wp_nil, intD_int, modD_int (show (0:Int) < 2147483647 by decide)]
    have hd : divD (.int ((b * 40693 + 71) % 2147483647)) (.int 64) = some (.int ((b * 40693 + 71) % 2147483647 / 64)) := divD_int (by decide) (by decide)
    simp only [wp_ok, List.set, wp_ret, wp_op, wp_b, wp_cons, wp_dealB, List.getElem?_cons_zero, wp_c, hd, wp_ofO_some, wp_nil, intD_int, wp_var, List.getElem?_cons_succ, modD_int h0]
    with_unfolding_all exact ⟨_, _, _, rfl, Int.emod_nonneg _ (by omega), Int.emod_lt_of_pos _ h0, rfl, ⟨by simp, by simp, by omega, by omega⟩⟩
  | some x =>
    have hne : c.isEmpty = false := by cases c with | nil => simp at hc | cons a r => rfl
    have hx : x ∈ c := List.mem_of_getLast? hc
    have hx0 := h.pos x hx
    have hlen : c.dropLast.length < c.length := by rw [List.length_dropLast]; cases c with | nil => simp at hc | cons a r => simp
    have hdl : DealOk c.dropLast b := ⟨by have := h.few; omega, fun y hy => h.pos y (List.dropLast_subset _ hy), h.b0, h.b1⟩
    simp only [wp_and, wp_dealNe, List.getElem?_cons_zero, hne, Bool.not_false, if_true, wp_tst, wp_op, wp_dealLast (i := 0) (e := [.deal c b, .dat (.int k), .un]) rfl hc, wp_c, eqD_int, wp_ofO_some]
    by_cases z : x = 0
    · subst z
      simp only [decide_true, if_true, wp_do, wp_dealPop (i := 0) (e := [.deal c b, .dat (.int k), .un]) rfl hc, forgetL, List.foldl, List.set]
      with_unfolding_all exact ⟨_, hlen, _, rfl, rfl, hdl⟩
    · have hd : divD (.int x) (.int k) = some (.int (x / k)) := divD_int h0 h1
      have hdk : divOk x k = true := by
        cases q : divOk x k with
        | true => rfl
        | false =>
          have : divD (.int x) (.int k) = if divOk x k = true then some (.int (x / k)) else none := rfl
          rw [q, if_neg (by decide)] at this
          rw [this] at hd; cases hd
      have hfew : c.dropLast.length < 16777216 := by have := hdl.few; omega
      simp only [z, decide_false, Bool.false_eq_true, if_false, wp_if, wp_dealNe, List.getElem?_cons_zero, hne, Bool.not_false, if_true, wp_seq, wp_asg, wp_b, wp_cons, wp_dealPop (i := 0) (e := [.deal c b, .dat (.int k), .un]) rfl hc, wp_nil, intD_int, wp_ofO_some, List.set, mDealApp, List.getElem?_cons_succ, hdk, decide_eq_true hfew, Bool.and_self, wp_ok, wp_ret, wp_op, wp_var, modD_int h0]
      refine ⟨_, _, _, rfl, Int.emod_nonneg _ (by omega), Int.emod_lt_of_pos _ h0, rfl, ⟨?_, fun y hy => ?_, h.b0, h.b1⟩⟩
      · rw [List.length_append, List.length_dropLast]
        have := h.few
        have : 0 < c.length := by omega
        simp; omega
      · rcases List.mem_append.mp hy with q | q
        · with_unfolding_all exact hdl.pos y q
        · have := List.mem_singleton.mp q
          subst this
          with_unfolding_all exact Int.ediv_nonneg hx0 (by omega)
/-- a draw -/
theorem wp_any {f : M D} {k : Int} (hc : e[i]? = some (.deal c b)) (hd : DealOk c b) (hf : Wp (f e) fun d e' => d = .int k ∧ e' = e) (h0 : 0 < k) (h1 : k.natAbs < 2 ^ 200)
    (hq : ∀ n c' b', 0 ≤ n → n < k → DealOk c' b' → T (.dat (.int n)) (e.set i (.deal c' b'))) : Wp (mCallIO i g__law_any (mCons f mNil) e) T := by
  unfold mCallIO
  rw [hc]
  show Wp ((mCons f mNil e).bind _) T
  have e1 : mCons f mNil e = .ok [.int k] e := by
    obtain ⟨d, e', q, rfl, rfl⟩ := hf.ex
    unfold mCons; rw [q]; rfl
  rw [e1]
  simp only [Out.bind_ok, hc, List.map_cons, List.map_nil]
  obtain ⟨r, e', q, n, c', b', rfl, a1, a2, a3, a4⟩ := (any_spec hd h0 h1).ex
  rw [q]
  simp only [a3]
  with_unfolding_all exact hq n c' b' a1 a2 a4
theorem atI_ok {α : Type} {xs : List α} {n : Int} (h0 : 0 ≤ n) (h1 : n < xs.length) : ∃ x, L2.atI xs n = some x ∧ x ∈ xs := by
  have hl : n.toNat < xs.length := by omega
  refine ⟨xs[n.toNat], ?_, List.getElem_mem hl⟩
  unfold L2.atI L2.ixN
  rw [if_pos h0, if_pos h1]
  with_unfolding_all exact List.getElem?_eq_getElem hl
theorem of_spec {ds : List D} (h : DealOk c b) (h0 : ds ≠ []) (h1 : ds.length < 2 ^ 30) : Wp (g__law_of [.deal c b, .dat (.list ds)]) fun r e => ∃ d c' b', r = .dat d ∧ d ∈ ds ∧ e.getD 0 .un = .deal c' b' ∧ DealOk c' b' := by
  refine (wp_gOf (by rfl)).mpr ?_
  have hl : 0 < ds.length := List.length_pos_iff.mpr h0
  simp only [m__law_of, List.cons_append, List.nil_append, List.replicate, wp_ret, wp_op, wp_var, List.getElem?_cons_zero, List.getElem?_cons_succ, wp_fz]
  refine wp_any (k := ds.length) (by rfl) h (by simp [lenD]) (by omega) (by omega) fun n c' b' a1 a2 a3 => ?_
  obtain ⟨x, hx, hm⟩ := atI_ok a1 a2
  have : idxD (.list ds) (.int n) = some x := hx
  simp only [slD_dat, this, wp_ofO_some]
  with_unfolding_all exact ⟨_, _, _, rfl, hm, rfl, a3⟩
theorem of_specT {ds : List D} (h : DealOk c b) (h0 : ds ≠ []) (h1 : ds.length < 2 ^ 30) : Wp (g__law_of [.deal c b, .dat (.tuple ds)]) fun r e => ∃ d c' b', r = .dat d ∧ d ∈ ds ∧ e.getD 0 .un = .deal c' b' ∧ DealOk c' b' := by
  refine (wp_gOf (by rfl)).mpr ?_
  have hl : 0 < ds.length := List.length_pos_iff.mpr h0
  simp only [m__law_of, List.cons_append, List.nil_append, List.replicate, wp_ret, wp_op, wp_var, List.getElem?_cons_zero, List.getElem?_cons_succ, wp_fz]
  refine wp_any (k := ds.length) (by rfl) h (by simp [lenD]) (by omega) (by omega) fun n c' b' a1 a2 a3 => ?_
  obtain ⟨x, hx, hm⟩ := atI_ok a1 a2
  have : idxD (.tuple ds) (.int n) = some x := hx
  simp only [slD_dat, this, wp_ofO_some]
  with_unfolding_all exact ⟨_, _, _, rfl, hm, rfl, a3⟩
theorem wp_of {f : M D} {ds : List D} (hc : e[i]? = some (.deal c b)) (hd : DealOk c b) (hf : Wp (f e) fun d e' => d = .list ds ∧ e' = e) (h0 : ds ≠ []) (h1 : ds.length < 2 ^ 30)
    (hq : ∀ d c' b', d ∈ ds → DealOk c' b' → T (.dat d) (e.set i (.deal c' b'))) : Wp (mCallIO i g__law_of (mCons f mNil) e) T := by
  unfold mCallIO
  rw [hc]
  show Wp ((mCons f mNil e).bind _) T
  have e1 : mCons f mNil e = .ok [.list ds] e := by
    obtain ⟨d, e', q, rfl, rfl⟩ := hf.ex
    unfold mCons; rw [q]; rfl
  rw [e1]
  simp only [Out.bind_ok, hc, List.map_cons, List.map_nil]
  obtain ⟨r, e', q, n, c', b', rfl, a1, a3, a4⟩ := (of_spec hd h0 h1).ex
  rw [q]
  simp only [a3]
  with_unfolding_all exact hq n c' b' a1 a4
theorem wp_draw {f : M D} {ns : List Int} {salt : Int} (hc : e[i]? = some (.scr ns)) (hf : Wp (f e) fun d e' => d = .int salt ∧ e' = e) (h0 : 0 ≤ salt) (h1 : salt < 1000)
    (hq : ∀ c b s, DealOk c b → T (.deal c b) (e.set i s)) : Wp (mCallIO i g__law_draw (mCons f mNil) e) T := by
  unfold mCallIO
  rw [hc]
  show Wp ((mCons f mNil e).bind _) T
  have e1 : mCons f mNil e = .ok [.int salt] e := by
    obtain ⟨d, e', q, rfl, rfl⟩ := hf.ex
    unfold mCons; rw [q]; rfl
  rw [e1]
  simp only [Out.bind_ok, hc, List.map_cons, List.map_nil]
  obtain ⟨r, e', q, c, b, rfl, a1⟩ := (draw_spec ns salt h0 h1).ex
  rw [q]
  with_unfolding_all exact hq c b _ a1
/-- a list of draws -/
theorem wp_compD {vs : List Nat} {t : D → Env' → Option Env'} {f : M D} {ds : List D} {Z : List D → Env' → Prop} (E : List Int → Int → Env') (P : Nat → List D → Prop) {c0 : List Int} {b0 : Int} (hd : DealOk c0 b0) (h0 : P 0 [])
    (hs : ∀ n x acc c b, ds[n]? = some x → P n acc → DealOk c b → ∃ e1, t x (E c b) = some e1 ∧ Wp (f e1) fun d e3 => P (n + 1) (acc ++ [d]) ∧ ∃ c' b', DealOk c' b' ∧ forgetL vs e3 = E c' b')
    (hq : ∀ acc c b, P ds.length acc → DealOk c b → Z acc (E c b)) : Wp (compE vs t mYes f ds [] (E c0 b0)) Z := by
  refine wp_compE (fun n acc e => ∃ c b, DealOk c b ∧ e = E c b ∧ P n acc) 0 ⟨c0, b0, hd, rfl, h0⟩ (fun j x acc e hx hi => ?_) fun acc e hi => ?_
  · obtain ⟨c, b, hd, rfl, hp⟩ := hi
    rw [Nat.zero_add] at hp ⊢
    obtain ⟨e1, h1, h2⟩ := hs j x acc c b hx hp hd
    refine ⟨e1, h1, ?_⟩
    rw [wp_yes, if_pos rfl]
    refine h2.mono fun d e3 q => ?_
    obtain ⟨q1, c', b', q2, q3⟩ := q
    with_unfolding_all exact ⟨c', b', q2, q3, q1⟩
  · obtain ⟨c, b, hd, rfl, hp⟩ := hi
    rw [Nat.zero_add] at hp
    with_unfolding_all exact hq acc c b hp hd
end
end Lp

namespace Lp
open PySem PySem.Spec L2
set_option autoImplicit false
/-! ### = of texts too -/
section
variable {K : PySem.W.Frag} {X : Cx}
def eqS : D → D → Option D
  | .str a, .str b => some (.bool (decide (a = b)))
  | _, _ => none
def neS : D → D → Option D
  | .str a, .str b => some (.bool (!decide (a = b)))
  | _, _ => none
theorem pure_eqS : Pure2 K rEq eqS := fun B H x y a b d Q s rx ry e q => by
  cases a with
  | str a =>
    cases b with
    | str b =>
      cases e
      rw [rx.str_inv, ry.str_inv]
      have e2 : decide (V.str a = V.str b) = decide (a = b) := by
        by_cases h : a = b
        · subst h; simp
        · have : ¬ V.str a = V.str b := fun z => h (V.str.inj z)
          rw [decide_eq_false this, decide_eq_false h]
      refine ⟨rfl, ?_⟩
      rw [e2]
      exact pure_val s q (.bl _)
    | _ => cases e
  | _ => cases e
theorem pure_neS : Pure2 K rNe neS := fun B H x y a b d Q s rx ry e q => by
  cases a with
  | str a =>
    cases b with
    | str b =>
      cases e
      rw [rx.str_inv, ry.str_inv]
      have e2 : decide (V.str a = V.str b) = decide (a = b) := by
        by_cases h : a = b
        · subst h; simp
        · have : ¬ V.str a = V.str b := fun z => h (V.str.inj z)
          rw [decide_eq_false this, decide_eq_false h]
      refine ⟨rfl, ?_⟩
      rw [e2]
      exact pure_val s q (.bl _)
    | _ => cases e
  | _ => cases e
def eqX : D → D → Option D := oOr eqS eqD
def neX : D → D → Option D := oOr neS neD
theorem op_eqX (hu : X.A.units + 64 < cLine) : OpR X (compareOp .Eq) (rOr rEq (rEqD X.K)) := opr_or op_eq (op_eqD hu)
theorem op_neX (hu : X.A.units + 64 < cLine) : OpR X (compareOp .NotEq) (rOr rNe (rNeD X.K)) := opr_or op_ne (op_neD hu)
theorem pure_eqX : Pure2 K (rOr rEq (rEqD K)) eqX := pure_or pure_eqS pure_eq
theorem pure_neX : Pure2 K (rOr rNe (rNeD K)) neX := pure_or pure_neS pure_ne
end
@[simp] theorem eqX_int {a b : Int} : eqX (.int a) (.int b) = some (.bool (decide (a = b))) := eqD_int
@[simp] theorem neX_int {a b : Int} : neX (.int a) (.int b) = some (.bool (!decide (a = b))) := neD_int
@[simp] theorem eqX_str {a b : Str} : eqX (.str a) (.str b) = some (.bool (decide (a = b))) := rfl
@[simp] theorem neX_str {a b : Str} : neX (.str a) (.str b) = some (.bool (!decide (a = b))) := rfl
/-! ### tame data -/
structure Tame (w k : Nat) (d : D) : Prop where
  sh : d.showable = true
  nd : d.hasDict = false
  cl : d.canLay0 = true
  dp : d.depth ≤ k
  ls : d.leavesShort 400 = true
  wt : d.weight ≤ w
theorem Tame.mono {w w' k k' : Nat} {d : D} (h : Tame w k d) (hw : w ≤ w') (hk : k ≤ k') : Tame w' k' d := ⟨h.sh, h.nd, h.cl, Nat.le_trans h.dp hk, h.ls, Nat.le_trans h.wt hw⟩
theorem tame_none : Tame 0 0 .none := ⟨rfl, rfl, rfl, by decide, rfl, by decide⟩
theorem tame_bool (b : Bool) : Tame 0 0 (.bool b) := ⟨rfl, rfl, rfl, Nat.le_refl _, rfl, Nat.le_refl _⟩
theorem tame_int {i : Int} (h : i.natAbs < 2 ^ 300) : Tame 301 0 (.int i) := by
  have hl := log2_le h
  refine ⟨?_, rfl, rfl, Nat.le_refl _, ?_, ?_⟩
  · show decide (i.natAbs.log2 < 1920) = true
    exact decide_eq_true (by omega)
  · show decide ((PyData.shown (.int i)).length ≤ 400) = true
    refine decide_eq_true ?_
    have e := int_text_length_le (a := i) (k := 301) (by decide) (by omega)
    show (Str.ofString (toString i)).length ≤ 400
    rw [ofString_length]; omega
  · show (if i == 0 then 0 else i.natAbs.log2 + 1) ≤ 301
    split <;> omega
theorem tame_all {w k : Nat} : ∀ {xs : List D}, (∀ x ∈ xs, Tame w k x) → PyData.showableAll xs = true ∧ PyData.hasDictAll xs = false ∧ PyData.canLayAll0 xs = true ∧ PyData.depthAll xs ≤ k ∧ PyData.leavesShortAll 400 xs = true ∧ PyData.weightAll xs ≤ xs.length * (w + 1)
  | [], _ => ⟨rfl, rfl, rfl, Nat.zero_le _, rfl, Nat.zero_le _⟩
  | x :: xs, h => by
    obtain ⟨a, b, c, d, e, f⟩ := tame_all fun y hy => h y (List.mem_cons_of_mem _ hy)
    have hx := h x (List.mem_cons_self ..)
    refine ⟨?_, ?_, ?_, ?_, ?_, ?_⟩
    · simp [PyData.showableAll, hx.sh, a]
    · simp [PyData.hasDictAll, hx.nd, b]
    · simp [PyData.canLayAll0, hx.cl, c]
    · simp only [PyData.depthAll]; have := hx.dp; omega
    · simp [PyData.leavesShortAll, hx.ls, e]
    · simp only [PyData.weightAll, List.length_cons]; have := hx.wt; rw [Nat.add_mul]; omega
theorem tame_list {w k n : Nat} {xs : List D} (h : ∀ x ∈ xs, Tame w k x) (hn : xs.length ≤ n) : Tame (n * (w + 1)) (k + 1) (.list xs) := by
  obtain ⟨a, b, c, d, e, f⟩ := tame_all h
  have := Nat.mul_le_mul_right (w + 1) hn
  exact ⟨by simpa only [PyData.showable] using a, by simpa only [PyData.hasDict] using b, by simpa only [PyData.canLay0] using c, by simp only [PyData.depth]; omega, by simpa only [PyData.leavesShort] using e, by simp only [PyData.weight]; omega⟩
theorem tame_tuple {w k n : Nat} {xs : List D} (h : ∀ x ∈ xs, Tame w k x) (hn : xs.length ≤ n) : Tame (n * (w + 1)) (k + 1) (.tuple xs) := by
  obtain ⟨a, b, c, d, e, f⟩ := tame_all h
  have := Nat.mul_le_mul_right (w + 1) hn
  exact ⟨by simpa only [PyData.showable] using a, by simpa only [PyData.hasDict] using b, by simpa only [PyData.canLay0] using c, by simp only [PyData.depth]; omega, by simpa only [PyData.leavesShort] using e, by simp only [PyData.weight]; omega⟩
theorem Tame.repr {w k : Nat} {d : D} (h : Tame w k d) (hw : w ≤ 40000) (hk : k ≤ 64) : reprD [d] = some (.str d.shown) := by
  have h1 := PyData.shown_le 400 (by decide) d h.ls
  have h2 := h.wt
  have h3 : d.shown.length ≤ 16777216 := by omega
  have h4 := h.dp
  show (if reprOk d = true then some (PyData.str d.shown) else none) = _
  rw [if_pos]
  unfold reprOk
  simp [h.sh, h.nd, h.cl, h3]
  omega
theorem Tame.shaped {w k : Nat} {d : D} (h : Tame w k d) (hk : k ≤ 64) : SeqAt.shaped d = true := by
  have := h.dp
  unfold SeqAt.shaped
  simp [h.cl]; omega
theorem reprD_int {i : Int} (h : i.natAbs < 2 ^ 300) : reprD [.int i] = some (.str (PyData.shown (.int i))) := (tame_int h).repr (by decide) (by decide)
@[simp] theorem reprD_bool {b : Bool} : reprD [.bool b] = some (.str (PyData.shown (.bool b))) := (tame_bool b).repr (by decide) (by decide)
@[simp] theorem reprD_none : reprD [.none] = some (.str (PyData.shown .none)) := tame_none.repr (by decide) (by decide)
theorem eqX_list_nil {xs : List D} {w k : Nat} (h : Tame w k (.list xs)) (hk : k ≤ 64) : eqX (.list xs) (.list []) = some (.bool xs.isEmpty) := by
  show (if (SeqAt.shaped (.list xs) && SeqAt.shaped (.list [])) = true then some (PyData.bool (PyData.eqv (.list xs) (.list []))) else none) = _
  rw [if_pos (by rw [h.shaped hk, (tame_list (w := 0) (k := 0) (n := 0) (xs := []) (by simp) (by simp)).shaped (by decide)]; rfl)]
  cases xs <;> simp [PyData.eqv, PyData.eqvAll]
theorem rg1_int {j : Int} (h : inR j = true) : rg1 [.int j] = some (rng 0 j.toNat) := by unfold rg1; exact if_pos h
theorem rg2_int {i j : Int} (h : inR i = true) (h' : inR j = true) : rg2 [.int i, .int j] = some (rng i (j - i).toNat) := by
  unfold rg2
  exact if_pos (by rw [h, h']; rfl)
theorem inR_of {j : Int} (h0 : -1000000000000 ≤ j) (h1 : j ≤ 1000000000000) : inR j = true := by
  unfold inR
  simp only [Bool.and_eq_true, decide_eq_true_eq]; omega
theorem catL_ok {xs ys : List D} (h : xs.length + ys.length ≤ 16777216) : addD (.list xs) (.list ys) = some (.list (xs ++ ys)) := by
  show oOr addI (oOr catL catT) _ _ = _
  unfold oOr
  have e : addI (.list xs) (.list ys) = none := rfl
  rw [e]
  dsimp only
  have e2 : catL (.list xs) (.list ys) = some (.list (xs ++ ys)) := if_pos h
  rw [e2]
theorem boolsOf_map {γ : Type} (f : γ → Bool) : ∀ xs : List γ, boolsOf (xs.map fun x => .bool (f x)) = some (xs.map f)
  | [] => rfl
  | x :: xs => by show (boolsOf (xs.map fun x => .bool (f x))).map (f x :: ·) = _; rw [boolsOf_map f xs]; rfl
theorem allD_map {γ : Type} (f : γ → Bool) (xs : List γ) : allD [.list (xs.map fun x => .bool (f x))] = some (.bool (xs.all f)) := by
  show (boolsOf (xs.map fun x => .bool (f x))).map _ = _
  rw [boolsOf_map]; simp
theorem anyD_map {γ : Type} (f : γ → Bool) (xs : List γ) : anyD [.list (xs.map fun x => .bool (f x))] = some (.bool (xs.any f)) := by
  show (boolsOf (xs.map fun x => .bool (f x))).map _ = _
  rw [boolsOf_map]; simp
end Lp

namespace Lp
open PySem PySem.Spec L2
set_option autoImplicit false
/-! ### one step of a mirror -/
section
variable {V : D → Env' → Prop} {U : Bool → Env' → Prop} {Z : List D → Env' → Prop} {S : Ctl → Env' → Prop} {T : Sl → Env' → Prop} {e : Env'} {f h l : M D} {fa : M (List D)} {i : Nat} {d x y : D} {m : M Sl} {c t : M Bool} {a b : M Ctl}
theorem i_seq (q : Wp (a e) fun c e => match c with | .next => Wp (b e) S | c => S c e) : Wp (mSeq a b e) S := wp_seq.mpr q
theorem i_asg (q : Wp (f e) fun d e => S .next (e.set i (.dat d))) : Wp (mAsg i f e) S := wp_asg.mpr q
theorem i_asgO (q : Wp (m e) fun r e => S .next (e.set i r)) : Wp (mAsgO i m e) S := wp_asgO.mpr q
theorem i_asgT {t : D → Env' → Option Env'} (q : Wp (f e) fun d e => ∃ e1, t d e = some e1 ∧ S .next e1) : Wp (mAsgT f t e) S := wp_asgT.mpr (q.mono fun d e ⟨e1, h, q⟩ => by rw [h]; with_unfolding_all exact q)
theorem i_ret (q : Wp (f e) fun d e => S (.ret (.dat d)) e) : Wp (mRet f e) S := wp_ret.mpr q
theorem i_retO (q : Wp (m e) fun r e => S (.ret r) e) : Wp (mRetO m e) S := wp_retO.mpr q
theorem i_do (q : Wp (f e) fun _ e => S .next e) : Wp (mDo f e) S := wp_do.mpr q
theorem i_if (q : Wp (c e) fun x e => if x = true then Wp (a e) S else Wp (b e) S) : Wp (mIf c a b e) S := wp_if.mpr q
theorem i_next (q : S .next e) : Wp (mNext e) S := by with_unfolding_all exact q
theorem i_brk (q : S .brk e) : Wp (mBrk e) S := by with_unfolding_all exact q
theorem i_cnt (q : S .cnt e) : Wp (mCnt e) S := by with_unfolding_all exact q
theorem i_retN (q : S (.ret (.dat .none)) e) : Wp (mRetN e) S := by with_unfolding_all exact q
theorem i_c (q : V d e) : Wp (mC d e) V := by with_unfolding_all exact q
theorem i_var (hv : e[i]? = some (.dat d)) (q : V d e) : Wp (mVar i e) V := wp_var.mpr (by rw [hv]; with_unfolding_all exact q)
theorem i_mv (hv : e[i]? = some (.dat d)) (q : T (.dat d) e) : Wp (mMv i e) T := by unfold mMv; rw [hv]; with_unfolding_all exact q
theorem i_mvO {ds : List D} (hv : e[i]? = some (.own ds)) (q : T (.own ds) (e.set i .un)) : Wp (mMv i e) T := by unfold mMv; rw [hv]; with_unfolding_all exact q
theorem i_ofO {o : Option D} (ho : o = some d) (q : V d e) : Wp (ofO o e) V := by rw [ho]; with_unfolding_all exact q
theorem i_un {g : D → Option D} (q : Wp (f e) fun x e => Wp (ofO (g x) e) V) : Wp (mUn g f e) V := wp_un.mpr q
theorem i_op {g : D → D → Option D} (q : Wp (f e) fun x e => Wp (h e) fun y e => Wp (ofO (g x y) e) V) : Wp (mOp g f h e) V := wp_op.mpr q
theorem i_b {g : List D → Option D} (q : Wp (fa e) fun xs e => Wp (ofO (g xs) e) V) : Wp (mB g fa e) V := wp_b.mpr q
theorem i_nil (q : Z [] e) : Wp (mNil e) Z := by with_unfolding_all exact q
theorem i_cons {r : M (List D)} (q : Wp (f e) fun x e => Wp (r e) fun xs e => Z (x :: xs) e) : Wp (mCons f r e) Z := wp_cons.mpr q
theorem i_tst (q : Wp (f e) fun x e => ∃ b, x = .bool b ∧ U b e) : Wp (mTst f e) U := wp_tst.mpr (q.mono fun x e ⟨b, h, q⟩ => by rw [h]; with_unfolding_all exact q)
theorem i_and (q : Wp (c e) fun x e => if x = true then Wp (t e) U else U false e) : Wp (mAnd c t e) U := wp_and.mpr q
theorem i_or (q : Wp (c e) fun x e => if x = true then U true e else Wp (t e) U) : Wp (mOr c t e) U := wp_or.mpr q
theorem i_not (q : Wp (c e) fun x e => U (!x) e) : Wp (mNot c e) U := wp_not.mpr q
theorem i_ofT (q : Wp (c e) fun x e => V (.bool x) e) : Wp (mOfT c e) V := wp_ofT.mpr q
theorem i_ifE (q : Wp (c e) fun x e => if x = true then Wp (f e) V else Wp (h e) V) : Wp (mIfE c f h e) V := wp_ifE.mpr q
theorem i_andV (q : Wp (f e) fun x e => ∃ b, x = .bool b ∧ if b = true then Wp (h e) V else V (.bool false) e) : Wp (mAndV f h e) V := wp_andV.mpr (q.mono fun x e ⟨b, h, q⟩ => by rw [h]; with_unfolding_all exact q)
theorem i_orV (q : Wp (f e) fun x e => ∃ b, x = .bool b ∧ if b = true then V (.bool true) e else Wp (h e) V) : Wp (mOrV f h e) V := wp_orV.mpr (q.mono fun x e ⟨b, h, q⟩ => by rw [h]; with_unfolding_all exact q)
theorem i_notV (q : Wp (f e) fun x e => ∃ b, x = .bool b ∧ V (.bool (!b)) e) : Wp (mNotV f e) V := wp_notV.mpr (q.mono fun x e ⟨b, h, q⟩ => by rw [h]; with_unfolding_all exact q)
theorem i_isi {T : Ty} (q : Wp (f e) fun x e => isDc x = false ∧ V (.bool (isi T x)) e) : Wp (mIsi T f e) V := wp_isi.mpr q
theorem i_tup (q : Wp (fa e) fun xs e => xs.length ≤ 16777216 ∧ V (.tuple xs) e) : Wp (mTup fa e) V := wp_tup.mpr q
theorem i_lst (q : Wp (fa e) fun xs e => xs.length ≤ 16777216 ∧ T (.own xs) e) : Wp (mLst fa e) T := wp_lst.mpr q
theorem i_bO {g : List D → Option (List D)} (q : Wp (fa e) fun xs e => ∃ ys, g xs = some ys ∧ T (.own ys) e) : Wp (mBO g fa e) T := wp_bO.mpr (q.mono fun x e ⟨b, h, q⟩ => by rw [h]; with_unfolding_all exact q)
theorem i_fz (q : Wp (m e) fun r e => ∃ d, slD r = some d ∧ V d e) : Wp (mFz m e) V := wp_fz.mpr (q.mono fun x e ⟨b, h, q⟩ => by rw [h]; with_unfolding_all exact q)
theorem i_od (q : Wp (f e) fun d e => T (.dat d) e) : Wp (mOd f e) T := wp_od.mpr q
theorem i_chain {g g' : D → D → Option D} (q : Wp (f e) fun x e => Wp (h e) fun y e => Wp (ofO (g x y) e) fun z e => ∃ b, z = .bool b ∧ if b = true then Wp (l e) fun w e => Wp (ofO (g' y w) e) V else V (.bool false) e) : Wp (mChain g g' f h l e) V :=
  wp_chain.mpr (q.mono fun x e q => q.mono fun y e q => q.mono fun z e ⟨b, h, q⟩ => by rw [h]; with_unfolding_all exact q)
theorem i_call {g : Env' → Out Sl} (q : Wp (fa e) fun ds e => Wp (g (ds.map .dat)) fun r _ => T r e) : Wp (mCall g fa e) T := wp_call.mpr q
theorem i_perm {n : Nat} {is : List Nat} (q : Wp (fa e) fun ds e => ds.length = n ∧ Z (is.map fun i => ds.getD i .none) e) : Wp (mPerm n is fa e) Z := wp_perm.mpr q
theorem i_for {it : M (List D)} {t : D → Env' → Option Env'} {body : M Ctl} {fs : List Nat} (q : Wp (it e) fun ds e => Wp (forE t body fs ds e) S) : Wp (mFor it t body fs e) S := wp_for.mpr q
theorem i_comp {vs : List Nat} {it : M (List D)} {t : D → Env' → Option Env'} (q : Wp (it e) fun ds e => ds.length ≤ 16777216 ∧ Wp (compE vs t c f ds [] (forgetL vs e)) fun acc e2 => T (.own acc) (restoreL vs e e2)) : Wp (mComp vs it t c f e) T := wp_comp.mpr q
theorem i_it (q : Wp (f e) fun d e => ∃ ds, seqD d = some ds ∧ Z ds e) : Wp (mIt f e) Z := wp_it.mpr (q.mono fun x e ⟨b, h, q⟩ => by rw [h]; with_unfolding_all exact q)
theorem i_itO {g : List D → Option (List D)} (q : Wp (fa e) fun xs e => ∃ ys, g xs = some ys ∧ Z ys e) : Wp (mItO g fa e) Z := wp_itO.mpr (q.mono fun x e ⟨b, h, q⟩ => by rw [h]; with_unfolding_all exact q)
theorem i_yes (q : U true e) : Wp (mYes e) U := by with_unfolding_all exact q
theorem i_rev {ds : List D} (q : Wp (f e) fun d e => d = .list ds ∧ T (.own ds.reverse) e) : Wp (mRev f e) T := wp_rev.mpr (q.mono fun x e ⟨h, q⟩ => by rw [h]; with_unfolding_all exact q)
theorem ite_t {c : Bool} {A B : Prop} (h : c = true) (q : A) : if c = true then A else B := by rw [if_pos h]; with_unfolding_all exact q
theorem ite_f {c : Bool} {A B : Prop} (h : c = false) (q : B) : if c = true then A else B := by rw [if_neg (by rw [h]; decide)]; with_unfolding_all exact q
theorem ite_b {c : Bool} {A B : Prop} (q1 : c = true → A) (q2 : c = false → B) : if c = true then A else B := by cases c with | true => with_unfolding_all exact ite_t rfl (q1 rfl) | false => with_unfolding_all exact ite_f rfl (q2 rfl)
end
end Lp

namespace Lp
open PySem PySem.Spec L2
set_option autoImplicit false
/-! ### sum, least, greatest, sorted, over lists and tuples of data -/
section
variable {K : PySem.W.Frag} {X : Cx} {B H : Hp}
def rSumA (K : PySem.W.Frag) : List V → Hp → VK → Prop := fun xs H Q => ∃ (a : Addr) (ns : List Int), xs = [V.ref a] ∧ (SqL K H a (ns.map V.int) ∨ SqT K H a (ns.map V.int)) ∧ Q (.int ns.sum) H
theorem call_sumA (hc : X.calm = true) : CallR X (.builtin "sum") (rSumA X.K) := by
  intro pins s σ H xs us Q I r h
  obtain ⟨a, ns, rfl, hs | hs, q⟩ := h
  · exact cr_sum hc pins s σ H _ us Q I r ⟨a, ns, rfl, hs, q⟩
  · obtain ⟨its, rv, ht, _⟩ := I.tuple hs
    rw [Vals.ref1 r]
    obtain ⟨ys, ey⟩ := rv.ints.allInts.items
    have hn := rv.ints.numsOf
    rw [show its = (intItems ys).toList from by rw [← ey], nums_intItems] at hn
    have ht' : s.heap.IsTuple a (intItems ys) := by rw [← ey]; exact ht
    refine PySem.W.ktm_sumG (I.ok.hd hc) ht' fun h' tk t' hk => ?_
    rw [preSum_eq, List.take_of_length_le (by simp), hn]
    exact ⟨.int _, H, I.kept hk, ⟨_, rfl⟩, q⟩
def sumD : List D → Option D
  | [.list ds] => (intsD ds).map fun ns => .int ns.sum
  | [.tuple ds] => (intsD ds).map fun ns => .int ns.sum
  | _ => none
theorem pure_sum : PureN K (rSumA K) sumD := fun B H xs as d Q s r e q => by
  unfold sumD at e
  split at e
  · rename_i ds
    obtain ⟨ns, h1, h2⟩ := Option.map_eq_some_iff.mp e
    subst h2
    obtain ⟨v, rfl, rv⟩ := r.one
    cases rv with
    | lst hb z rr =>
      rename_i a vs
      have := intsD_rp h1 rr
      subst this
      exact ⟨a, ns, rfl, .inl (SqL.of (s _ _ hb)), pure_val s q (.int _)⟩
  · rename_i ds
    obtain ⟨ns, h1, h2⟩ := Option.map_eq_some_iff.mp e
    subst h2
    obtain ⟨v, rfl, rv⟩ := r.one
    cases rv with
    | tup hb z rr =>
      rename_i a vs
      have := intsD_rp h1 rr
      subst this
      exact ⟨a, ns, rfl, .inr (Same.sqT s hb), pure_val s q (.int _)⟩
  · cases e
/-- data that can be put in order -/
def alikeB (ds : List D) : Bool := (ds.all fun x => ds.all fun y => PySem.W.alike x y) && ds.all fun x => match x with | .none => false | _ => true
theorem alikeB_all {ds : List D} (h : alikeB ds = true) : PySem.W.AlikeAll ds := by
  unfold alikeB at h
  simp only [Bool.and_eq_true, List.all_eq_true] at h
  exact ⟨fun x hx y hy => h.1 x hx y hy, fun x hx e => by have := h.2 x hx; rw [e] at this; cases this⟩
def ordOk (ds : List D) : Bool := alikeB ds && PyData.canLayAll0 ds && decide (PyData.depthAll ds ≤ 64)
def rBest (K : PySem.W.Frag) (f : D → List D → D) : List V → Hp → VK → Prop := fun xs H Q => ∃ (a : Addr) (vs : List V) (x : D) (ds : List D), xs = [V.ref a] ∧ (SqL K H a vs ∨ SqT K H a vs) ∧ DpAll K H vs (x :: ds) ∧ ordOk (x :: ds) = true ∧
  ∀ (i : Nat) v d, vs[i]? = some v → (x :: ds)[i]? = some d → d = f x ds → Q v H
theorem Vals.get_of {vs : List V} {us : List Value} (r : Vals vs us) {i : Nat} {u : Value} (h : us[i]? = some u) : ∃ v, vs[i]? = some v ∧ RelV v u := by
  have hl : i < vs.length := by rw [r.length]; exact (List.getElem?_eq_some_iff.mp h).1
  obtain ⟨w, h1, h2⟩ := r.get (i := i) (x := vs[i]) (by simp [hl])
  rw [h] at h1
  cases h1
  exact ⟨vs[i], by simp [hl], h2⟩
theorem best_lands {f : D → List D → D} {pins : List (Addr × Obj)} {s : Shared} {σ : L2.St} {Q : VK} {vs : List V} {its : List Value} {x : D} {ds : List D} {as bs : List Addr} (I : Inv X pins σ H s) (rv : Vals vs its) (hr : ReadsAll s.heap its (x :: ds) as) (ok : PyData.canLayAll0 (x :: ds) = true)
    (q : ∀ (i : Nat) v d, vs[i]? = some v → (x :: ds)[i]? = some d → d = f x ds → Q v H) {i : Nat} {u : Value} {h' : Heap} {tk : Nat} (hu : its.toArray[i]? = some u) (hrd : Reads h' u (f x ds) bs) (hk : ∀ b o, s.heap.get? b = some o → h'.get? b = some o) :
    EP X pins σ Q u { s with heap := h', toks := tk } := by
  have hu' : its[i]? = some u := by simpa using hu
  obtain ⟨v, hv, hrel⟩ := Vals.get_of rv hu'
  obtain ⟨bs2, r2, hlt, hmem, _⟩ := PySem.W.readsAll_at hr i u hu'
  have hd : (x :: ds)[i]? = some ((x :: ds).getD i .none) := by rw [List.getD_eq_getElem?_getD, List.getElem?_eq_getElem hlt]; rfl
  have hcl : ((x :: ds).getD i .none).canLay0 = true := PyData.canLay0_of_mem _ _ ok hmem
  have e := (Reads.unique (PyProof.Rows.Reads.keeps hk r2) _ _ hrd).1
  exact ⟨v, H, I.kept hk, hrel, q i v _ hv hd e⟩
theorem call_minA (hc : X.calm = true) (hu : X.A.units + 66 < cLine) : CallR X (.builtin "min") (rBest X.K PySem.W.minD) := by
  intro pins s σ H xs us Q I r h
  obtain ⟨a, vs, x, ds, rfl, hs, hd, ok, q⟩ := h
  unfold ordOk at ok
  simp only [Bool.and_eq_true, decide_eq_true_eq] at ok
  obtain ⟨⟨o1, o2⟩, o3⟩ := ok
  rw [Vals.ref1 r]
  rcases hs with hs | hs
  · obtain ⟨its, rv, hl, _⟩ := I.list hs
    obtain ⟨as, hr⟩ := Dp.readsAll I _ _ _ hd rv
    exact PySem.W.min_list_data (I.ok.hd hc) hl.isList (by simpa using hr) (alikeB_all o1) (by omega) fun i u h' tk bs hu hrd hk => best_lands I rv hr o2 q hu hrd hk
  · obtain ⟨its, rv, ht, _⟩ := I.tuple hs
    obtain ⟨as, hr⟩ := Dp.readsAll I _ _ _ hd rv
    exact PySem.W.min_tuple_data (I.ok.hd hc) ht (by simpa using hr) (alikeB_all o1) (by omega) fun i u h' tk bs hu hrd hk => best_lands I rv hr o2 q hu hrd hk
theorem call_maxA (hc : X.calm = true) (hu : X.A.units + 66 < cLine) : CallR X (.builtin "max") (rBest X.K PySem.W.maxD) := by
  intro pins s σ H xs us Q I r h
  obtain ⟨a, vs, x, ds, rfl, hs, hd, ok, q⟩ := h
  unfold ordOk at ok
  simp only [Bool.and_eq_true, decide_eq_true_eq] at ok
  obtain ⟨⟨o1, o2⟩, o3⟩ := ok
  rw [Vals.ref1 r]
  rcases hs with hs | hs
  · obtain ⟨its, rv, hl, _⟩ := I.list hs
    obtain ⟨as, hr⟩ := Dp.readsAll I _ _ _ hd rv
    exact PySem.W.max_list_data (I.ok.hd hc) hl.isList (by simpa using hr) (alikeB_all o1) (by omega) fun i u h' tk bs hu hrd hk => best_lands I rv hr o2 q hu hrd hk
  · obtain ⟨its, rv, ht, _⟩ := I.tuple hs
    obtain ⟨as, hr⟩ := Dp.readsAll I _ _ _ hd rv
    exact PySem.W.max_tuple_data (I.ok.hd hc) ht (by simpa using hr) (alikeB_all o1) (by omega) fun i u h' tk bs hu hrd hk => best_lands I rv hr o2 q hu hrd hk
def bestD (f : D → List D → D) : List D → Option D
  | [.list (x :: ds)] => if ordOk (x :: ds) = true then some (f x ds) else none
  | [.tuple (x :: ds)] => if ordOk (x :: ds) = true then some (f x ds) else none
  | _ => none
theorem ordOk_canLay {ds : List D} (h : ordOk ds = true) : PyData.canLayAll0 ds = true := by
  unfold ordOk at h
  simp only [Bool.and_eq_true] at h
  exact h.1.2
theorem pure_best {f : D → List D → D} : PureN K (rBest K f) (bestD f) := fun B H xs as d Q s r e q => by
  unfold bestD at e
  split at e
  · rename_i x ds
    split at e
    · rename_i ok
      cases e
      obtain ⟨v, rfl, rv⟩ := r.one
      cases rv with
      | lst hb z rr =>
        rename_i a vs
        refine ⟨a, vs, x, ds, rfl, .inl (SqL.of (s _ _ hb)), rpAll_dp (rr.mono s) (ordOk_canLay ok), ok, fun i v d hv hd ed => ?_⟩
        obtain ⟨d', h1, h2⟩ := rr.get hv
        rw [hd] at h1
        cases h1
        rw [ed] at h2
        exact pure_val s q h2
    · cases e
  · rename_i x ds
    split at e
    · rename_i ok
      cases e
      obtain ⟨v, rfl, rv⟩ := r.one
      cases rv with
      | tup hb z rr =>
        rename_i a vs
        refine ⟨a, vs, x, ds, rfl, .inr (Same.sqT s hb), rpAll_dp (rr.mono s) (ordOk_canLay ok), ok, fun i v d hv hd ed => ?_⟩
        obtain ⟨d', h1, h2⟩ := rr.get hv
        rw [hd] at h1
        cases h1
        rw [ed] at h2
        exact pure_val s q h2
    · cases e
  · cases e
/-! sorted -/
def sortOk (ds : List D) : Bool := alikeB ds && PyData.canLayAll0 ds && decide (PyData.depthAll ds ≤ 60) && decide (ds.length ≤ 16777216) &&
  ((ds.all fun x => match x with | .tuple (_ :: _) => true | _ => false) || (ds.all fun x => match x with | .tuple _ => false | _ => true))
theorem sortOk_sortable {ds : List D} (h : sortOk ds = true) : PySem.W.Sortable ds := by
  unfold sortOk at h
  simp only [Bool.and_eq_true, Bool.or_eq_true, List.all_eq_true] at h
  obtain ⟨⟨⟨⟨h1, _⟩, _⟩, _⟩, h2⟩ := h
  rcases h2 with h2 | h2
  · refine .inl fun d hd => ?_
    have := h2 d hd
    split at this
    · exact ⟨_, _, rfl⟩
    · cases this
  · refine .inr fun d hd => ⟨(alikeB_all h1).2 d hd, fun xs e => ?_⟩
    have := h2 d hd
    rw [e] at this
    cases this
def sortedD (ds : List D) : List D := ds.mergeSort (PySem.W.dataLe false id)
def rSortA (K : PySem.W.Frag) : List V → Hp → VK → Prop := fun xs H Q => ∃ (a : Addr) (vs : List V) (ds : List D) (P : V → D → Prop), xs = [V.ref a] ∧ SqL K H a vs ∧ PySem.W.EachIs P vs ds ∧ DpAll K H vs ds ∧ sortOk ds = true ∧
  ∀ (vs' : List V) (p : Addr), PySem.W.EachIs P vs' (sortedD ds) → H p = none → Q (.ref p) (upd H p (.lst vs'))
theorem each_reads {pins : List (Addr × Obj)} {s : Shared} {σ : L2.St} (I : Inv X pins σ H s) : ∀ {vs : List V} {ds : List D} {us : List Value}, DpAll X.K H vs ds → Vals vs us → PySem.W.EachIs (fun u d => ∃ as, Reads s.heap u (id d) as) us ds
  | _, _, _, .nil, r => by cases r; exact .nil
  | _, _, _, .cons h hs, r => by
    cases r with
    | cons r1 r2 => exact .cons (Dp.reads I _ _ _ h r1) (each_reads I hs r2)
theorem each_rel {P : V → D → Prop} : ∀ {vs : List V} {ds : List D} {us : List Value}, PySem.W.EachIs P vs ds → Vals vs us → PySem.W.EachIs (fun u d => ∃ v, RelV v u ∧ P v d) us ds
  | _, _, _, .nil, r => by cases r; exact .nil
  | _, _, _, .cons h hs, r => by
    cases r with
    | cons r1 r2 => exact .cons ⟨_, r1, h⟩ (each_rel hs r2)
theorem each_back {P : V → D → Prop} : ∀ {us : List Value} {ds : List D}, PySem.W.EachIs (fun u d => ∃ v, RelV v u ∧ P v d) us ds → ∃ vs, Vals vs us ∧ PySem.W.EachIs P vs ds
  | _, _, .nil => ⟨[], .nil, .nil⟩
  | _, _, .cons ⟨v, h1, h2⟩ hs => let ⟨vs, a, b⟩ := each_back hs; ⟨v :: vs, .cons h1 a, .cons h2 b⟩
theorem call_sortA (hu : X.A.units + 66 < cLine) : CallR X (.builtin "sorted") (rSortA X.K) := by
  intro pins s σ H xs us Q I r h
  obtain ⟨a, vs, ds, P, rfl, hs, hP, hd, ok, q⟩ := h
  have ok' := ok
  unfold sortOk at ok'
  simp only [Bool.and_eq_true, decide_eq_true_eq] at ok'
  obtain ⟨⟨⟨⟨o1, o2⟩, o3⟩, o4⟩, _⟩ := ok'
  obtain ⟨its, rv, hl, _⟩ := I.list hs
  rw [Vals.ref1 r]
  have hdep : ∀ d ∈ ds, d.depth ≤ PyData.depthAll ds := by
    have : ∀ (ds : List D) (d : D), d ∈ ds → d.depth ≤ PyData.depthAll ds := by
      intro ds
      induction ds with
      | nil => intro d h; cases h
      | cons x xs ih =>
        intro d h
        simp only [PyData.depthAll]
        rcases List.mem_cons.mp h with rfl | h
        · omega
        · have := ih d h; omega
    exact this ds
  refine PySem.W.sorted_data (enc := id) hl.isList (each_rel hP rv) (each_reads I hd rv) (by rw [List.map_id]; exact (alikeB_all o1).1) (by rw [List.map_id]; exact sortOk_sortable ok) (line_of o4) (fun b hb => ?_) fun out hlen eo => ?_
  · have := hdep b hb
    show X.A.units + 2 + b.depth < cLine
    omega
  · obtain ⟨vs', v1, v2⟩ := each_back eo
    obtain ⟨ep, he'⟩ := PyProof.Rows.sortedAll_at s.heap its out.toArray
    refine ⟨.ref (s.heap.objs.size + 1), upd H (s.heap.objs.size + 1) (.lst vs'), I.laid (t' := s.toks) (fun _ _ => PyProof.Rows.sortedAll_old) (Nat.le_succ _) ⟨?_, out, ep, v1, he'⟩, rfl, q vs' _ v2 (I.hok.fresh (Nat.le_succ _))⟩
    rw [v1.length, hlen]
    exact line_of o4
def sortF : List D → Option (List D)
  | [.list ds] => if sortOk ds = true then some (sortedD ds) else none
  | _ => none
theorem RpAll.each : ∀ {vs : List V} {ds : List D}, RpAll K B vs ds → PySem.W.EachIs (Rp K B) vs ds
  | _, _, .nil => .nil
  | _, _, .cons h hs => .cons h (RpAll.each hs)
theorem RpAll.of_each : ∀ {vs : List V} {ds : List D}, PySem.W.EachIs (Rp K B) vs ds → RpAll K B vs ds
  | _, _, .nil => .nil
  | _, _, .cons h hs => .cons h (RpAll.of_each hs)
theorem fresh_sort : FreshN K (rSortA K) sortF := fun B H xs as ds Q s r e q => by
  unfold sortF at e
  split at e
  · rename_i zs
    split at e
    · rename_i ok
      cases e
      obtain ⟨v, rfl, rv⟩ := r.one
      cases rv with
      | lst hb z rr =>
        rename_i a vs
        have o2 : PyData.canLayAll0 zs = true := by
          unfold sortOk at ok
          simp only [Bool.and_eq_true] at ok
          exact ok.1.1.1.2
        refine ⟨a, vs, zs, Rp K B, rfl, SqL.of (s _ _ hb), rr.each, rpAll_dp (rr.mono s) o2, ok, fun vs' p hv hp => ?_⟩
        have hl : vs'.length ≤ sizeLine := by
          rw [hv.length]
          unfold sortedD
          rw [List.length_mergeSort, ← rr.length]
          exact z
        exact q vs' p B H (grow_same s) (RpAll.of_each hv) hl hp
    · cases e
  · cases e
end
end Lp

/-! enumerate over a tuple -/
namespace Lp
open PySem PySem.Spec PyProof.Rows L2
set_option autoImplicit false
theorem drawsT {prog : Program} {w : World} {A : Around} (nh : A.handled = none) (j t : Addr) (ne : t ≠ j) (zs : Array Value) : Draws prog w A j [j, t] zs.size (fun i v => zs[i]? = some v) (fun i h => h.IsTupleIter j t i ∧ h.IsTuple t zs) where
  live := fun _ _ q => by
    obtain ⟨⟨u, e, _⟩, _⟩ := q
    exact ⟨u, e⟩
  frame := fun _ _ _ q k => ⟨by
    obtain ⟨⟨u, e, c⟩, _⟩ := q
    exact ⟨u, k j (by simp) u e, c⟩, by
    obtain ⟨_, u, e, c⟩ := q
    exact ⟨u, k t (by simp) u e, c⟩⟩
  item := fun i s Q E hi q k => RZ.nextOf_tuple_item q.1 q.2 (x := zs[i]) (by simp [hi]) fun g it' sb => k _ g s.toks (by simp [hi]) ⟨it', q.2.extBut sb.extBut ne⟩ sb
  done := fun s Q E q k => RZ.nextOf_tuple_end nh q.1 q.2 (by simp) k
theorem drawsTE {prog : Program} {w : World} {A : Around} (nh : A.handled = none) (j t : Addr) (zs : Array Value) (n : Nat) (hz : zs[n]? = none) : Draws prog w A j [j, t] n (fun _ _ => False) (fun i h => h.IsTupleIter j t i ∧ h.IsTuple t zs ∧ n ≤ i) where
  live := fun _ _ q => by
    obtain ⟨⟨u, e, _⟩, _⟩ := q
    exact ⟨u, e⟩
  frame := fun _ _ _ q k => ⟨by
    obtain ⟨⟨u, e, c⟩, _⟩ := q
    exact ⟨u, k j (by simp) u e, c⟩, by
    obtain ⟨_, ⟨u, e, c⟩, _⟩ := q
    exact ⟨u, k t (by simp) u e, c⟩, q.2.2⟩
  item := fun i s Q E hi q k => absurd q.2.2 (Nat.not_le_of_lt hi)
  done := fun s Q E q k => RZ.nextOf_tuple_end nh q.1 q.2.1 hz k
abbrev eT1 (h : Heap) (t : Addr) : Heap := h.push { cls := .type "tuple_iterator", data := .fields #[.ref t, .int 0 0] }
abbrev eT2 (h : Heap) (t : Addr) : Heap := (eT1 h t).push { cls := .type "enumerate", data := .fields #[.none, .bool false, .ref h.objs.size, rawInt 0, .none, .none] }
theorem meets_enumT (t : Addr) (zs : Array Value) (n : Nat) (dc : Option Addr) (sl : Array (Option Value)) :
    Meets (Builtin.«enumerate.__new__» ⟨[.type "enumerate", .ref t], []⟩) (fun _ R s => s.heap.get? t = some { cls := .type "tuple", dict := dc, data := .seq zs n, slots := sl } ∧ R (.ok (.ret (.ref (eT1 s.heap t).objs.size))) { s with heap := eT2 s.heap t }) :=
  .of_wp fun prog w A R s q => by
    obtain ⟨h0, g0, d0, k0, o0⟩ := s
    obtain ⟨ht, q⟩ := q
    have hb := sub_enumerate
    have hT : Heap.IsTuple (Shared.heap ⟨h0, g0, d0, k0, o0⟩) t zs := ⟨_, ht, rfl, n, rfl⟩
    wp_walk using wpAny_loadPart' ht
    refine wpAny_stack_any fun _ => wpAny_pure ?_
    split
    · rename_i c _ _ _ _ _
      cases (c == Value.type "enumerate") <;> (wp_walk using wpAny_loadPart' ht, wpAny_pyIter_tuple hT; exact ⟨_, rfl, q⟩)
    · wp_walk using wpAny_loadPart' ht, wpAny_pyIter_tuple hT
      exact ⟨_, rfl, q⟩
theorem call_enumT {prog : Program} {w : World} {A : Around} {E : Value → Shared → Prop} {s : Shared} {t : Addr} {zs : Array Value} {Q : Value → Shared → Prop} (hT : s.heap.IsTuple t zs)
    (k : ∀ g, IsEnum g (s.heap.objs.size + 1) s.heap.objs.size 0 .none → g.IsTupleIter s.heap.objs.size t 0 → (∀ b o, s.heap.get? b = some o → g.get? b = some o) → Q (.ref (s.heap.objs.size + 1)) { s with heap := g }) : wpAny (model prog w) A (call (.type "enumerate") [.ref t]) Q E s := by
  obtain ⟨⟨c, dc, dt, sl⟩, ht, hc, n, hd⟩ := hT
  replace hc : c = .type "tuple" := hc
  replace hd : dt = .seq zs n := hd
  subst hc hd
  refine callType_new F.called_enumerate (by decide) (F.typeCall_enumerate_1 _) (F.newCall_enumerate_1 _) (fun u => F.args_object_init_2 u _) F.entry_enumerate_new (meets_enumT t zs n dc sl) ⟨ht, ?_⟩
  have z : (eT1 s.heap t).objs.size = s.heap.objs.size + 1 := Heap.size_push ..
  show _ ∧ _
  rw [z]
  have e : IsEnum (eT2 s.heap t) (s.heap.objs.size + 1) s.heap.objs.size 0 .none := by
    have := Heap.get?_push_size (eT1 s.heap t) (o := { cls := .type "enumerate", data := .fields #[.none, .bool false, .ref s.heap.objs.size, rawInt 0, .none, .none] }) rfl
    rw [z] at this
    exact this
  exact ⟨⟨_, e, rfl⟩, k _ e ⟨_, Heap.get?_push_of_some _ (Heap.get?_push_size _ rfl), rfl, rfl⟩ fun b o q => Heap.get?_push_of_some _ (Heap.get?_push_of_some _ q)⟩
/-- the tuple at a, each item in a new pair with its place -/
def ItzE (K : PySem.W.Frag) (a : Addr) : It :=
  ⟨fun i H => ∃ (xs : List V) (x : V), SqT K H a xs ∧ xs[i]? = some x, fun i H v H' => ∃ T x, v = .ref T ∧ H T = none ∧ H' = upd H T (.tup [.int (i : Nat), x]) ∧ ∀ xs, SqT K H a xs → xs[i]? = some x, fun i H => ∃ xs : List V, SqT K H a xs ∧ xs.length ≤ i⟩
theorem turn_enumT {P : Program} {w : World} {K : PySem.W.Frag} {elts : List Expr} {kk : Nat} {tpos : Pos} (a e j : Addr) :
    Turn P w K (.Tuple elts kk tpos) (ItzE K a) [e, j] e (fun i h => (∃ old, IsEnum h e j ((i : Nat) : Int) old) ∧ h.IsTupleIter j a i ∧ e ≠ j ∧ e ≠ a ∧ a ≠ j) where
  mem := by simp
  obj := fun i h q b hb => by
    obtain ⟨⟨old, he⟩, ⟨o, ho, _, hd⟩, _⟩ := q
    have : b = e ∨ b = j := by simpa using hb
    rcases this with z | z
    · rw [z]; exact ⟨_, he, fun v y => nomatch y⟩
    · rw [z]; exact ⟨o, ho, fun v y => by rw [hd] at y; cases y⟩
  keep := fun i h h' q k => by
    obtain ⟨⟨old, he⟩, ⟨o, ho, hc, hd⟩, hne⟩ := q
    exact ⟨⟨old, k e (by simp) _ he⟩, ⟨o, k j (by simp) _ ho, hc, hd⟩, hne⟩
  item := by
    intro X hP hw hK hcm i pins s σ H E I hf q hg
    subst hP hw hK
    obtain ⟨⟨old, he⟩, hit, hne, hea, haj⟩ := q
    obtain ⟨xs, x, hq, hx⟩ := hg
    obtain ⟨its, rv, p, hz⟩ := I.tuple hq
    obtain ⟨u, hu, ru⟩ := rv.get hx
    have hel : e < s.heap.objs.size := Heap.lt_size he
    have hjl : j < s.heap.objs.size := by obtain ⟨_, y, _⟩ := hit; exact Heap.lt_size y
    have hi : i < its.toArray.size := by
      have := (List.getElem?_eq_some_iff.mp hu).1
      simpa using this
    refine wpAny_pyNext_enum_itemD (drawsT (A := X.A.in1) (I.ok.hd hcm) j a haj its.toArray) he ⟨hit, p⟩ hi hne (by simp [hne, hea]) fun y h' tk hy ho st hT hsz hk => ?_
    have ey : y = u := by
      have : its[i]? = some y := by simpa using hy
      rw [hu] at this
      exact (Option.some.inj this).symm
    subst ey
    refine ⟨_, rfl, wpAny_letOwnedTupleGo_enum (s := { s with heap := h', toks := tk + 1 }) ho fun h2 he2 sb => ?_⟩
    have hT2 : h2.get? s.heap.objs.size = some { cls := .type "tuple", data := .seq #[.int i tk, y] } := (sb.2 _ (Nat.ne_of_gt hel)).trans hT
    have new : ObjOk X.prog X.w (upd H s.heap.objs.size (.tup [.int (i : Nat), x])) h2 s.heap.objs.size (.tup [.int (i : Nat), x]) := ⟨by show 2 ≤ sizeLine; decide, [.int i tk, y], .cons ⟨_, rfl⟩ (.cons ru .nil), ⟨_, hT2, rfl, _, rfl⟩⟩
    have I1 : Inv X pins σ (upd H s.heap.objs.size (.tup [.int (i : Nat), x])) { s with heap := h2, toks := tk + 1 } :=
      I.turnedNew (ch := [e, j]) (fun b ob hb z => (sb.2 b (fun c => hb (by simp [c]))).trans (hk b ob (fun c => hb (by simp [c])) (fun c => hb (by simp [c])) z)) hf (Nat.le_refl _) new
    refine ⟨.ref s.heap.objs.size, _, I1, rfl, ⟨_, x, rfl, I.hok.fresh (Nat.le_refl _), rfl, fun ys hy => by rw [I.tuple_inj hy hq]; exact hx⟩, ⟨⟨y, ?_⟩, ?_, hne, hea, haj⟩, fun b hb => ?_⟩
    · have e1 : ((i + 1 : Nat) : Int) = (i : Int) + 1 := by omega
      rw [e1]; exact he2
    · obtain ⟨⟨o, ho1, hc1, hd1⟩, _⟩ := st
      exact ⟨o, (sb.2 j (Ne.symm hne)).trans ho1, hc1, hd1⟩
    · have hb' : b < s.heap.objs.size := by
        have : b = e ∨ b = j := by simpa using hb
        rcases this with z | z
        · rw [z]; exact hel
        · rw [z]; exact hjl
      rw [upd_ne (Nat.ne_of_lt hb')]
      exact (hf b hb).1
  done := by
    intro X hP hw hK hcm i pins s σ H E I hf q hg
    subst hP hw hK
    obtain ⟨⟨old, he⟩, hit, hne, hea, haj⟩ := q
    obtain ⟨xs, hq, hx⟩ := hg
    obtain ⟨its, rv, p, hz⟩ := I.tuple hq
    obtain ⟨f0, f1, f2, f3, f4, f5⟩ := hf j (by simp)
    have hl := rv.length
    exact wpAny_pyNext_enum_endD (drawsTE (A := X.A.in1) (I.ok.hd hcm) j a its.toArray i (by simp; omega)) he ⟨hit, p, Nat.le_refl _⟩ fun h' eb => ⟨rfl, I.turned (t' := s.toks) (fun b o hb y => eb b o hb y) f0 f1 f3 f4 f5⟩
  self := fun A i s Q E q h => let ⟨⟨_, he⟩, _⟩ := q; wpAny_pyIter_enum he h
def iEnumA (K : PySem.W.Frag) (ta : TA) : TI := fun σ H R => ta σ H fun vs H1 => ∃ a xs, vs = [.ref a] ∧ ((SqL K H1 a xs ∧ R (Ite K a) H1) ∨ (SqT K H1 a xs ∧ R (ItzE K a) H1))
theorem pi_enumA {X : Cx} {e : Expr} {ta : TA} {p pos tpos : Pos} {elts : List Expr} {kk : Nat} (hg : Gl X "enumerate") (hm : X.mg "enumerate" = none) (ha : PA X [e] ta) (hs : starEach [e] X.env = [(false, eval e X.env)] := by rfl) : PI X (.Tuple elts kk tpos) (.Call (.Name "enumerate" p) [e] [] pos) (iEnumA X.K ta) := by
  refine ⟨fun pins s σ H R I h => Call_ (ld_blt I hg hm boot_enumerate (PyProof.Rows.callWith_type1 (thn (ha.run pos pins s σ H _ I h) fun us s1 ⟨vs, H1, I1, r1, q1⟩ => ?_) hs rfl))⟩
  obtain ⟨a, xs, ex, q⟩ := q1
  subst ex
  cases r1 with
  | cons r rr =>
    cases rr
    cases r
    have fp : ∀ b ∈ [s1.heap.objs.size + 1, s1.heap.objs.size], s1.heap.objs.size ≤ b := fun b hb => by
      have : b = s1.heap.objs.size + 1 ∨ b = s1.heap.objs.size := by simpa using hb
      omega
    rcases q with ⟨hq, q⟩ | ⟨hq, q⟩
    · obtain ⟨its, rv, pl, hz⟩ := I1.list hq
      refine call_enumerate_list pl.isList fun h' he hit hsz hk => wpAny_pyIter_enum he ?_
      have I2 : Inv X pins σ H1 { s1 with heap := h' } := I1.kept (t' := s1.toks) hk
      exact ⟨s1.heap.objs.size + 1, [s1.heap.objs.size + 1, s1.heap.objs.size], _, _, H1, rfl, I2, turn_enum a (s1.heap.objs.size + 1) s1.heap.objs.size, ⟨⟨.none, he⟩, hit, Nat.succ_ne_self _⟩, fun b hb => I1.fpOk (fp b hb) (I1.hok.fresh (fp b hb)), q⟩
    · obtain ⟨its, rv, pt, hz⟩ := I1.tuple hq
      have hal : a < s1.heap.objs.size := by obtain ⟨_, y, _⟩ := pt; exact Heap.lt_size y
      refine call_enumT pt fun h' he hit hk => wpAny_pyIter_enum he ?_
      have I2 : Inv X pins σ H1 { s1 with heap := h' } := I1.kept (t' := s1.toks) hk
      exact ⟨s1.heap.objs.size + 1, [s1.heap.objs.size + 1, s1.heap.objs.size], _, _, H1, rfl, I2, turn_enumT a (s1.heap.objs.size + 1) s1.heap.objs.size, ⟨⟨.none, he⟩, hit, Nat.succ_ne_self _, Nat.ne_of_gt (Nat.lt_succ_of_lt hal), Nat.ne_of_lt hal⟩, fun b hb => I1.fpOk (fp b hb) (I1.hok.fresh (fp b hb)), q⟩
section
variable {K : PySem.W.Frag} {ax : Ax} {X : Cx} {B1 : Hp}
theorem yields_enumT {a : Addr} {xs : List V} {ds : List D} (h : SqT K B1 a xs) (r : RpAll K B1 xs ds) : Yields K B1 (ItzE K a) (enumD ds) := fun B H i s1 s2 => by
  have h2 : SqT K H a xs := Same.sqT (s1.trans s2) h
  refine ⟨fun d e => ?_, fun hl => ⟨xs, h2, by rw [r.length]; unfold enumD at hl; simpa using hl⟩⟩
  unfold enumD at e
  have hi : i < ds.length := by
    have := (List.getElem?_eq_some_iff.mp e).1
    simpa using this
  rw [List.getElem?_map, List.getElem?_range hi] at e
  have e' := (Option.some.inj e).symm
  subst e'
  have eg : ds[i]? = some (ds.getD i .none) := by rw [List.getD_eq_getElem?_getD, List.getElem?_eq_getElem hi]; rfl
  obtain ⟨v, ev, rv⟩ := r.get' eg
  refine ⟨⟨xs, v, h2, ev⟩, fun x H' y => ?_⟩
  obtain ⟨T, y, rfl, nT, rfl, q⟩ := y
  have ex := q xs h2
  rw [ev] at ex
  cases ex
  exact ⟨_, grow_new s2 nT, .tup (SqT.of upd_same) (by show 2 ≤ sizeLine; decide) (.cons (.int _) (.cons (rv.mono (s1.trans (grow_new s2 nT).b)) .nil))⟩
def en1 : List D → Option (List D)
  | [.list ds] => some (enumD ds)
  | [.tuple ds] => some (enumD ds)
  | _ => none
def zp2 : List D → Option (List D)
  | [.list a, .list b] => some (zipD a b)
  | [.tuple a, .tuple b] => some (zipD a b)
  | _ => none
theorem si_enum {ta : TA} {f : M (List D)} (h : SA K ax ta f) : SIt K ax (iEnumA K ta) (mItO en1 f) := fun W B H σ env R si g =>
  h W B H σ env _ si (Good.bind g fun ds e vs B1 H1 s1 si1 r1 g1 => by
    cases q : en1 ds with
    | none => rw [q] at g1; exact g1.elim
    | some ys =>
      rw [q] at g1
      unfold en1 at q
      split at q
      · cases q
        obtain ⟨v, rfl, rv⟩ := r1.one
        cases rv with
        | lst hb z rr => exact ⟨_, _, rfl, .inl ⟨SqL.of (si1.same _ _ hb), g1 _ B1 H1 (fun _ _ e => e) si1 (yields_enum (SqL.of hb) rr)⟩⟩
      · cases q
        obtain ⟨v, rfl, rv⟩ := r1.one
        cases rv with
        | tup hb z rr => exact ⟨_, _, rfl, .inr ⟨Same.sqT si1.same hb, g1 _ B1 H1 (fun _ _ e => e) si1 (yields_enumT hb rr)⟩⟩
      · cases q)
theorem si_zip {ta : TA} {f : M (List D)} (h : SA K ax ta f) : SIt K ax (RZ.iZipA K ta) (mItO zp2 f) := fun W B H σ env R si g =>
  h W B H σ env _ si (Good.bind g fun ds e vs B1 H1 s1 si1 r1 g1 => by
    cases q : zp2 ds with
    | none => rw [q] at g1; exact g1.elim
    | some ys =>
      rw [q] at g1
      unfold zp2 at q
      split at q
      · cases q
        obtain ⟨v, u, rfl, rv, ru⟩ := r1.two
        cases rv with
        | lst hb z rr =>
          cases ru with
          | lst hb' z' rr' => exact ⟨_, _, _, _, rfl, .inl ⟨SqL.of (si1.same _ _ hb), SqL.of (si1.same _ _ hb'), g1 _ B1 H1 (fun _ _ e => e) si1 (yields_zipL (SqL.of hb) rr (SqL.of hb') rr')⟩⟩
      · cases q
        obtain ⟨v, u, rfl, rv, ru⟩ := r1.two
        cases rv with
        | tup hb z rr =>
          cases ru with
          | tup hb' z' rr' => exact ⟨_, _, _, _, rfl, .inr ⟨Same.sqT si1.same hb, Same.sqT si1.same hb', g1 _ B1 H1 (fun _ _ e => e) si1 (yields_zipT hb rr hb' rr')⟩⟩
      · cases q)
theorem mi_enum {e : Expr} {p pos tpos : Pos} {elts : List Expr} {kk : Nat} {fa : M (List D)} (hm : X.mg "enumerate" = none) (ha : MA ax X [e] fa) (hg : Gl X "enumerate" := by rfl) (hs : starEach [e] X.env = [(false, eval e X.env)] := by rfl) :
    MI ax X (.Tuple elts kk tpos) (.Call (.Name "enumerate" p) [e] [] pos) (mItO en1 fa) := let ⟨_, p', s'⟩ := ha; ⟨_, pi_enumA hg hm p' hs, si_enum s'⟩
theorem mi_zip {e e2 : Expr} {p pos tpos : Pos} {elts : List Expr} {kk : Nat} {fa : M (List D)} (hm : X.mg "zip" = none) (ha : MA ax X [e, e2] fa) (hg : Gl X "zip" := by rfl) (hs : starEach [e, e2] X.env = (false, eval e X.env) :: starEach [e2] X.env := by rfl) (hpl : (backTo pos (starEach [e2] X.env)).any (·.1) = false := by rfl) :
    MI ax X (.Tuple elts kk tpos) (.Call (.Name "zip" p) [e, e2] [] pos) (mItO zp2 fa) := let ⟨_, p', s'⟩ := ha; ⟨_, RZ.pi_zipA hg hm p' hs hpl, si_zip s'⟩
end
end Lp

/-! a tuple times 1 -/
namespace Lp
open PySem PySem.Spec PyProof.Rows L2
set_option autoImplicit false
theorem tupMulOne (l : Addr) (zs : Array Value) (n : Nat) (dd : Option Addr) (sl : Array (Option Value)) (x : Int) (u : Tok) (c0 : (decide (x < -(2 ^ 63)) || decide (x ≥ 2 ^ 63)) = false) (c1 : (zs.isEmpty || x == 1) = true) :
    Meets (Builtin.«tuple.__mul__» ⟨[.ref l, .int x u], []⟩) (fun _ R s => s.heap.get? l = some { cls := .type "tuple", dict := dd, data := .seq zs n, slots := sl } ∧ R (.ok (.ret (.ref l))) s) :=
  .of_wp fun prog w A R s q => by
    obtain ⟨h0, g0, d0, k0, o0⟩ := s
    obtain ⟨hl, q⟩ := q
    have f1 := AutoSeq1.idx_int
    wp_walk using wpAny_loadPart' hl
    repeat (first
      | (refine wpAny_ite_false (decide_eq_false (by rw [c0]; exact Bool.false_ne_true)) ?_; wp_walk using wpAny_loadPart' hl)
      | (refine wpAny_ite_true (decide_eq_true c1) ?_; wp_walk using wpAny_loadPart' hl))
    exact ⟨_, rfl, q⟩
theorem tupMulNil (l : Addr) (zs : Array Value) (n : Nat) (dd : Option Addr) (sl : Array (Option Value)) (x : Int) (u : Tok) (c0 : (decide (x < -(2 ^ 63)) || decide (x ≥ 2 ^ 63)) = false) (c1 : (zs.isEmpty || x == 1) = false) (c2 : (decide (x ≤ 0) || zs.isEmpty) = true) :
    Meets (Builtin.«tuple.__mul__» ⟨[.ref l, .int x u], []⟩) (fun _ R s => s.heap.get? l = some { cls := .type "tuple", dict := dd, data := .seq zs n, slots := sl } ∧ R (.ok (.ret (.ref s.heap.objs.size))) { s with heap := s.heap.push { cls := .type "tuple", data := .seq #[] } }) :=
  .of_wp fun prog w A R s q => by
    obtain ⟨h0, g0, d0, k0, o0⟩ := s
    obtain ⟨hl, q⟩ := q
    have f1 := AutoSeq1.idx_int
    wp_walk using wpAny_loadPart' hl
    repeat (first
      | (refine wpAny_ite_false (decide_eq_false (by rw [c0]; exact Bool.false_ne_true)) ?_; wp_walk using wpAny_loadPart' hl)
      | (refine wpAny_ite_false (decide_eq_false (by rw [c1]; exact Bool.false_ne_true)) ?_; wp_walk using wpAny_loadPart' hl)
      | (refine wpAny_ite_true (decide_eq_true c2) ?_; wp_walk using wpAny_loadPart' hl))
    exact ⟨_, rfl, q⟩
def rRepA (K : PySem.W.Frag) : R2 := fun x y H Q => ∃ l k xs, x = .ref l ∧ y = .int k ∧ SqT K H l xs ∧ -(2 ^ 62) < k ∧ k ≤ 1000 ∧ xs.length ≤ 1000 ∧ ((k = 1 ∨ xs = []) → Q (.ref l) H) ∧ (¬ (k = 1 ∨ xs = []) → ∀ p, H p = none → Q (.ref p) (upd H p (.tup (List.replicate k.toNat xs).flatten)))
theorem op_repA {X : Cx} : OpR X (binaryOp .Mult) (rRepA X.K) := by
  intro pins s σ H x y v u Q I rx ry h
  obtain ⟨l, k, xs, rfl, rfl, hT, h1, h2, hz, q1, q2⟩ := h
  by_cases h3 : 2 ≤ k ∧ xs ≠ []
  · exact op_repT pins s σ H _ _ v u Q I rx ry ⟨l, k, xs, rfl, rfl, hT, h3.2, h3.1, h2, hz, q2 fun z => z.elim (fun z => by have := h3.1; omega) h3.2⟩
  cases rx
  obtain ⟨t, rfl⟩ := ry
  obtain ⟨its, r, ⟨⟨cls, dd, data, sl⟩, ho, hc, n, hd⟩, hs⟩ := I.tuple hT
  simp only at hc hd
  subst hc hd
  have hle : its.length = xs.length := r.length.symm
  have c0 : (decide (k < -(2 ^ 63)) || decide (k ≥ 2 ^ 63)) = false := by
    rw [decide_eq_false (by omega), decide_eq_false (by omega)] <;> rfl
  have em : its.toArray.isEmpty = decide (xs = []) := by
    cases its with
    | nil =>
      have : xs = [] := List.eq_nil_of_length_eq_zero hle.symm
      simp [this]
    | cons a b =>
      have : ¬ xs = [] := fun z => by rw [z] at hle; simp at hle
      simp [this]
  have go : ∀ {R : Value → Shared → Prop} {E : Value → Shared → Prop}, wpAny (model X.prog X.w) X.A (call (.builtin "tuple.__mul__") [.ref l, .int k t]) R E s → wpAny (model X.prog X.w) X.A (binaryOp .Mult (.ref l) (.int k t)) R E s := fun {R E} hh =>
    wpAny_binaryOp_repeat_ref (T := "tuple") (U := "int") (by decide) ⟨_, ho, rfl⟩ (fun s' => typeIs_int s' k t) noFill_tuple_mul F.fills_int_mul F.slot_int_rmul repeat_tuple F.slot_int_index.lookup
      (call_meets F.slot_int_rmul (typeIs_int s k t) F.entry_int_rmul (F.args_int_rmul_2 _ _) (int_rmul_tuple k t l its.toArray n dd sl) ⟨ho, rfl, ⟨_, ho, rfl⟩, hh⟩)
  refine go ?_
  by_cases h4 : k = 1 ∨ xs = []
  · have c1 : (its.toArray.isEmpty || k == 1) = true := by
      rw [em]
      rcases h4 with z | z
      · rw [z]; simp
      · simp [z]
    exact call_meets F.slot_tuple_mul ⟨_, ho, rfl⟩ F.entry_tuple_mul (F.args_tuple_mul_2 _ _) (tupMulOne l its.toArray n dd sl k t c0 c1) ⟨ho, .ref l, H, I, rfl, q1 h4⟩
  · have c1 : (its.toArray.isEmpty || k == 1) = false := by
      rw [em]
      have a1 : ¬ k = 1 := fun z => h4 (.inl z)
      have a2 : ¬ xs = [] := fun z => h4 (.inr z)
      simp [a1, a2]
    have c2 : (decide (k ≤ 0) || its.toArray.isEmpty) = true := by
      have a2 : ¬ xs = [] := fun z => h4 (.inr z)
      have : k ≤ 0 := by
        have a1 : ¬ k = 1 := fun z => h4 (.inl z)
        have a3 : ¬ 2 ≤ k := fun z => h3 ⟨z, a2⟩
        omega
      rw [decide_eq_true this]; rfl
    have hk0 : k.toNat = 0 := by
      have a2 : ¬ xs = [] := fun z => h4 (.inr z)
      have a1 : ¬ k = 1 := fun z => h4 (.inl z)
      have a3 : ¬ 2 ≤ k := fun z => h3 ⟨z, a2⟩
      omega
    have q3 := q2 h4 s.heap.objs.size (I.hok.fresh (Nat.le_refl _))
    rw [hk0] at q3
    refine call_meets F.slot_tuple_mul ⟨_, ho, rfl⟩ F.entry_tuple_mul (F.args_tuple_mul_2 _ _) (tupMulNil l its.toArray n dd sl k t c0 c1 c2) ⟨ho, .ref s.heap.objs.size, _, I.laid (t' := s.toks) (o := .tup []) (fun b ob z => Heap.get?_push_of_some _ z) (Nat.le_refl _) ?_, rfl, q3⟩
    exact ⟨by show 0 ≤ sizeLine; omega, [], .nil, IsTup.new _ _⟩
section
variable {ax : Ax} {X : Cx} {K : PySem.W.Frag} {W : Wd} {B B' H H' : Hp} {σ : L2.St} {env : Env'} {pos p1 p2 p3 p4 p5 : Pos} {a b c e : Expr} {f h l : M D} {i : Nat} {io : List Nat} {x : Str} {v : V} {r : Sl}
def repT : D → D → Option D
  | .tuple xs, .int k => if (decide (-(2 ^ 62) < k) && decide (k ≤ 1000) && decide (xs.length ≤ 1000)) = true then some (.tuple (List.replicate k.toNat xs).flatten) else none
  | _, _ => none
theorem RpAll.rep {vs : List V} {ds : List D} (h : RpAll K B vs ds) : ∀ n : Nat, RpAll K B (List.replicate n vs).flatten (List.replicate n ds).flatten
  | 0 => .nil
  | n + 1 => by
    rw [List.replicate_succ, List.flatten_cons, List.replicate_succ, List.flatten_cons]
    exact h.append (RpAll.rep h n)
theorem pure_repT : Pure2 K (rRepA K) repT := fun B H x y a b d Q s rx ry e q => by
  unfold repT at e
  split at e
  · split at e
    · rename_i xs k hg
      simp only [Bool.and_eq_true, decide_eq_true_eq] at hg
      obtain ⟨⟨g1, g2⟩, g3⟩ := hg
      cases e
      cases rx with
      | tup hb z rr =>
        rename_i l vs
        have hl : vs.length ≤ 1000 := by rw [rr.length]; exact g3
        refine ⟨l, k, vs, rfl, ry.int_inv, Same.sqT s hb, g1, g2, hl, fun hc => ?_, fun hc p hp => ?_⟩
        · refine pure_val s q ?_
          rcases hc with z | z
          · subst z
            have : (List.replicate (1 : Int).toNat xs).flatten = xs := by show (List.replicate 1 xs).flatten = xs; simp
            rw [this]
            exact .tup hb (by rw [sizeLine_eq]; omega) rr
          · subst z
            cases rr
            have : (List.replicate k.toNat ([] : List D)).flatten = [] := by simp
            rw [this]
            exact .tup hb (by rw [sizeLine_eq]; simp) .nil
        · refine pure_tup s q (rr.rep k.toNat) ?_ hp
          rw [PyProof.Rows.lm_len_rep_flat, sizeLine_eq]
          have := Nat.mul_le_mul (show k.toNat ≤ 1000 by omega) hl
          omega
    · cases e
  · cases e
def repL : D → D → Option D
  | .list xs, .int k => if (inR k && decide (xs.length * k.toNat ≤ 16777216)) = true then some (.list (List.replicate k.toNat xs).flatten) else none
  | _, _ => none
theorem pure_repL : Pure2 K rRep repL := fun B H x y a b d Q s rx ry e q => by
  unfold repL at e
  split at e
  · split at e
    · rename_i xs k hg
      simp only [Bool.and_eq_true, decide_eq_true_eq] at hg
      obtain ⟨g1, g2⟩ := hg
      cases e
      cases rx with
      | lst hb z rr =>
        rename_i l vs
        have hl : vs.length * k.toNat ≤ sizeLine := by rw [rr.length]; exact line_of g2
        have h2 := inR.of g1
        refine ⟨l, k, vs, rfl, ry.int_inv, s _ _ hb, by omega, by omega, hl, fun p hp => pure_list s q (rr.rep k.toNat) ?_ hp⟩
        rw [PyProof.Rows.lm_len_rep_flat, Nat.mul_comm]
        exact hl
    · cases e
  · cases e
def mulX : D → D → Option D := oOr mulD (oOr repT repL)
theorem op_mulA : OpR X (binaryOp .Mult) (rOr (rI CMulW fun i j => .int (i * j)) (rOr (rRepA X.K) rRep)) := opr_or op_mulW (opr_or op_repA op_rep)
theorem pure_mulX : Pure2 K (rOr (rI CMulW fun i j => .int (i * j)) (rOr (rRepA K) rRep)) mulX := pure_or pure_mul (pure_or pure_repT pure_repL)
theorem mulX_int {i j : Int} (h : mulD (.int i) (.int j) = some (.int (i * j))) : mulX (.int i) (.int j) = some (.int (i * j)) := by
  show oOr mulD (oOr repT repL) _ _ = _
  unfold oOr
  rw [h]
/-! ### own lists read where they stand -/
def mOwnIx (i : Nat) (k : M D) : M D := fun e0 => match e0[i]? with
  | some (.own _) => (k e0).bind fun j e => match e[i]?, j with
    | some (.own ds), .int j => ofO (L2.atI ds j) e
    | _, _ => .stuck
  | _ => .stuck
theorem sd_ownIx {tk : TE} {k : M D} (hk : SD K ax tk k) : SD K ax (tOp (rIx K) (tVar i) tk) (mOwnIx i k) := fun W B H σ env Q si gd => by
  unfold mOwnIx at gd
  cases q : env[i]? with
  | none => rw [q] at gd; exact gd.elim
  | some s =>
    rw [q] at gd
    cases s with
    | own ds0 =>
      obtain ⟨p, vs, ev, hp, -, -⟩ := si.own_at q
      refine ⟨_, ev, hk W B H σ env _ si (Good.bind gd fun j e u B1 H1 s1 si1 r1 g1 => ?_)⟩
      cases q1 : e[i]? with
      | none => rw [q1] at g1; exact g1.elim
      | some s =>
        rw [q1] at g1
        cases s with
        | own ds =>
          cases j with
          | int j =>
            obtain ⟨p2, us, ev2, hp2, rs, z⟩ := si1.own_at q1
            rw [ev] at ev2
            cases ev2
            dsimp only at g1
            cases q2 : L2.atI ds j with
            | none => rw [q2] at g1; exact g1.elim
            | some d =>
              rw [q2] at g1
              obtain ⟨v, e3, rv⟩ := rs.atI q2
              exact .inl ⟨p, us, j, v, rfl, r1.int_inv, SqL.of hp2, e3, g1 v B1 H1 (fun _ _ e => e) si1 rv⟩
          | _ => exact g1.elim
        | _ => exact g1.elim
    | _ => exact gd.elim
theorem md_ownIx (i : Nat) (hb : MD ax X b f) (hs : PlainIx b) (hN : X.N[i]? = some x := by rfl) (hv : Vis X.env.scope x := by first | exact Or.inl rfl | exact Or.inr (Or.inl rfl) | exact Or.inr (Or.inr rfl)) (hd : (x == ("__debug__" : Str)) = false := by decide) (hcd : (x == ("__classdict__" : Str)) = false := by decide) :
    MD ax X (.Subscript (.Name x p1) b pos) (mOwnIx i f) := let ⟨_, p, s⟩ := hb; ⟨_, pe_ix ix_seq (pe_var hN hv hd hcd) p hs, sd_ownIx s⟩
def mOwnLen (i : Nat) : M D := fun e => match e[i]? with
  | some (.own ds) => .ok (.int ds.length) e
  | _ => .stuck
theorem sd_ownLen : SD K ax (tCB (fun xs H Q => ∃ x n, xs = [x] ∧ LenV K x H n ∧ Q (.int n) H) (tCons (tVar i) tNil)) (mOwnLen i) := fun W B H σ env Q si gd => by
  unfold mOwnLen at gd
  cases q : env[i]? with
  | none => rw [q] at gd; exact gd.elim
  | some s =>
    rw [q] at gd
    cases s with
    | own ds =>
      obtain ⟨p, vs, ev, hp, rs, z⟩ := si.own_at q
      refine ⟨_, ev, _, _, rfl, .inl ⟨_, SqL.of hp, rfl⟩, ?_⟩
      have := gd (.int ds.length) B H (fun _ _ e => e) si (.int _)
      rw [← rs.length] at this
      exact this
    | _ => exact gd.elim
theorem md_ownLen (i : Nat) {y : Str} (hm : X.mg "len" = none) (hN : X.N[i]? = some y := by rfl) (hv : Vis X.env.scope y := by first | exact Or.inl rfl | exact Or.inr (Or.inl rfl) | exact Or.inr (Or.inr rfl)) (hd : (y == ("__debug__" : Str)) = false := by decide) (hcd : (y == ("__classdict__" : Str)) = false := by decide) (hg : Gl X "len" := by rfl)
    (hs : starEach [.Name y p1] X.env = (false, eval (.Name y p1) X.env) :: starEach [] X.env := by rfl) (hpl : (backTo pos (starEach [] X.env)).any (·.1) = false := by rfl) : MD ax X (.Call (.Name "len" p2) [.Name y p1] [] pos) (mOwnLen i) :=
  ⟨_, pe_callB call_len hg hm (by decide +kernel) (pa_cons (pe_var hN hv hd hcd) pa_nil hs) (by decide) (by decide) hs hpl, sd_ownLen⟩
/-- x != [], x == [] -/
def mOwnNe (i : Nat) (b : Bool) : M Bool := fun e => match e[i]? with
  | some (.own ds) => if SeqAt.shaped (.list ds) = true then .ok (b == ds.isEmpty) e else .stuck
  | _ => .stuck
theorem eqvAll_nil (ds : List D) : PyData.eqv (.list ds) (.list []) = ds.isEmpty := by cases ds <;> simp [PyData.eqv, PyData.eqvAll]
theorem shaped_nil : SeqAt.shaped (.list []) = true := by simp [SeqAt.shaped, PyData.canLay0, PyData.canLayAll0, PyData.depth, PyData.depthAll]
theorem own_shaped {ds : List D} (h : SeqAt.shaped (.list ds) = true) : PyData.canLayAll0 ds = true := by
  unfold SeqAt.shaped at h
  simp only [Bool.and_eq_true] at h
  simpa only [PyData.canLay0] using h.1
theorem st_ownNe : ST K ax (tTest (tOp (rNeD K) (tVar i) (tLst tNil))) (mOwnNe i false) := fun W B H σ env Q si gd => by
  unfold mOwnNe at gd
  cases q : env[i]? with
  | none => rw [q] at gd; exact gd.elim
  | some s =>
    rw [q] at gd
    cases s with
    | own ds =>
      obtain ⟨p, vs, ev, hp, rs, z⟩ := si.own_at q
      dsimp only at gd
      split at gd
      · rename_i hsh
        refine ⟨_, ev, by show 0 ≤ sizeLine; omega, fun o ho => ?_⟩
        have nqo : p ≠ o := ne_of_none hp ho
        refine ⟨.list ds, .list [], .lst (SqL.of (by rw [upd_ne nqo]; exact hp)) (rpAll_dp (rs.mono ((si.newH (o := .lst []) ho).same)) (own_shaped hsh)), .lst (SqL.of upd_same) .nil, hsh, shaped_nil, _, rfl, ?_⟩
        rw [eqvAll_nil]
        have := gd _ B _ (fun _ _ e => e) (si.newH (o := .lst []) ho) rfl
        cases hh : ds.isEmpty <;> rw [hh] at this <;> exact this
      · exact gd.elim
    | _ => exact gd.elim
theorem st_ownEq : ST K ax (tTest (tOp (rEqD K) (tVar i) (tLst tNil))) (mOwnNe i true) := fun W B H σ env Q si gd => by
  unfold mOwnNe at gd
  cases q : env[i]? with
  | none => rw [q] at gd; exact gd.elim
  | some s =>
    rw [q] at gd
    cases s with
    | own ds =>
      obtain ⟨p, vs, ev, hp, rs, z⟩ := si.own_at q
      dsimp only at gd
      split at gd
      · rename_i hsh
        refine ⟨_, ev, by show 0 ≤ sizeLine; omega, fun o ho => ?_⟩
        have nqo : p ≠ o := ne_of_none hp ho
        refine ⟨.list ds, .list [], .lst (SqL.of (by rw [upd_ne nqo]; exact hp)) (rpAll_dp (rs.mono ((si.newH (o := .lst []) ho).same)) (own_shaped hsh)), .lst (SqL.of upd_same) .nil, hsh, shaped_nil, _, rfl, ?_⟩
        rw [eqvAll_nil]
        have := gd _ B _ (fun _ _ e => e) (si.newH (o := .lst []) ho) rfl
        cases hh : ds.isEmpty <;> rw [hh] at this <;> exact this
      · exact gd.elim
    | _ => exact gd.elim
theorem mt_ownNe (i : Nat) (hu : X.A.units + 64 < cLine) (hN : X.N[i]? = some x := by rfl) (hv : Vis X.env.scope x := by first | exact Or.inl rfl | exact Or.inr (Or.inl rfl) | exact Or.inr (Or.inr rfl)) (hd : (x == ("__debug__" : Str)) = false := by decide) (hcd : (x == ("__classdict__" : Str)) = false := by decide) :
    MT ax X (.Compare (.Name x p1) [.NotEq] [.List [] p4] p5) (mOwnNe i false) := ⟨_, pt_cmpR (op_neD hu) (pe_var hN hv hd hcd) (pe_lst pa_nil) (nomark _), st_ownNe⟩
theorem mt_ownEq (i : Nat) (hu : X.A.units + 64 < cLine) (hN : X.N[i]? = some x := by rfl) (hv : Vis X.env.scope x := by first | exact Or.inl rfl | exact Or.inr (Or.inl rfl) | exact Or.inr (Or.inr rfl)) (hd : (x == ("__debug__" : Str)) = false := by decide) (hcd : (x == ("__classdict__" : Str)) = false := by decide) :
    MT ax X (.Compare (.Name x p1) [.Eq] [.List [] p4] p5) (mOwnNe i true) := ⟨_, pt_cmpR (op_eqD hu) (pe_var hN hv hd hcd) (pe_lst pa_nil) (nomark _), st_ownEq⟩
end
end Lp

namespace Lp
open PySem PySem.Spec L2
set_option autoImplicit false
section
variable {ax : Ax} {X : Cx} {K : PySem.W.Frag} {W : Wd} {B B' H H' : Hp} {σ : L2.St} {env : Env'} {pos p1 p2 p3 p4 p5 : Pos} {a b c e : Expr} {f h l : M D} {i : Nat} {io : List Nat} {x : Str} {v : V} {r : Sl}
/-! ### two results side by side -/
/-- the world in which a second result is made: the first one's things are not its own -/
theorem side (siv : SIV K W B H σ env v r) : ∃ W1 : Wd, SI K W1 B H σ env ∧ (∀ {B' H' : Hp} {e : Env'}, SI K W1 B' H' σ e → SIV K W B' H' σ e v r) ∧
    ∀ {B' H' : Hp} {e : Env'} {u : V} {q : Sl} {i j : Nat}, SIV K W1 B' H' σ e u q → i ∉ W.io → j ∉ W.io → SI K W B' H' ((σ.set i (some v)).set j (some u)) ((e.set i r).set j q) := by
  obtain ⟨g, F, Fv, s, sv, hm, hd⟩ := siv
  have hft : ∀ a ∈ (blkW B H F env.length).ft, W.H0 a = none ∨ a ∈ W.ft := fun a ha => let ⟨i, _, h⟩ := mem_blk ha; (s.there i a h).2.fr
  have nft : ∀ a ∈ Fv, a ∉ (blkW B H F env.length).ft := fun a ha h => let ⟨i, _, h⟩ := mem_blk h; hd i a h ha
  have c : ∀ {B' H' : Hp} p, Ownd (blkW B H F env.length) B' H' p → Ownd W B' H' p := fun p o => Ownd.out (W2 := blkW B H F env.length) g rfl hft o
  have i0 : SI K (blkW B H F env.length) B H σ env := by
    have := block_in (vs := []) g s
    simpa [wipe, forgetL] using this
  have keepv : ∀ {B' H' : Hp}, Grow B H (blkW B H F env.length).ft B' H' → SlV K W B' H' Fv v r ∧ ∀ a ∈ Fv, Mut (H' a) ∧ Ownd W B' H' a := fun {B' H'} g2 => by
    refine ⟨sv.grow g2.b (fun a ha hb => g2.fr a hb (hm a ha).1 (nft a ha)) (fun a ha o e => g2.keep a o (nft a ha) e), fun a ha => ?_⟩
    obtain ⟨m, o⟩ := hm a ha
    refine ⟨?_, g2.fr a o.nb m (nft a ha), o.fr⟩
    cases q : H a with
    | none => rw [q] at m; exact m.elim
    | some u => rw [g2.keep a u (nft a ha) q, ← q]; exact m
  have apart : ∀ {B' H' : Hp} {a : Addr}, Ownd (blkW B H F env.length) B' H' a → a ∉ Fv := fun {B' H' a} o hv => by
    rcases o.fr with z | z
    · have m := (hm a hv).1
      have z' : H a = none := z
      rw [z'] at m; exact m
    · exact nft a hv z
  have slots : ∀ {B' H' : Hp} {e : Env'} {F2 : Nat → List Addr}, Slots K (blkW B H F env.length) B' H' σ e F2 → Slots K W B' H' σ e F2 := fun {B' H' e F2} s2 =>
    ⟨s2.len, s.pin, fun j x e => (s2.at_ j x e).out c, fun j a ha => ⟨(s2.there j a ha).1, c a (s2.there j a ha).2⟩, s2.dis⟩
  refine ⟨_, i0, fun {B' H' e} si => ?_, fun {B' H' e u q i j} siv hi hj => ?_⟩
  · obtain ⟨g2, F2, s2⟩ := si
    have g2' : Grow B H (blkW B H F env.length).ft B' H' := g2
    obtain ⟨k1, k2⟩ := keepv g2'
    exact ⟨g.trans g2' hft, F2, Fv, slots s2, k1, k2, fun j a ha => apart (s2.there j a ha).2⟩
  · obtain ⟨g2, F2, Fu, s2, su, hu, hdu⟩ := siv
    have g2' : Grow B H (blkW B H F env.length).ft B' H' := g2
    obtain ⟨k1, k2⟩ := keepv g2'
    have s3 := (slots s2).put hi k1 k2 fun j a ha => apart (s2.there j a ha).2
    have hu' : ∀ a ∈ Fu, Mut (H' a) ∧ Ownd W B' H' a := fun a ha => ⟨(hu a ha).1, c a (hu a ha).2⟩
    refine ⟨g.trans g2' hft, _, s3.put hj (su.out c) hu' fun k a ha hau => ?_⟩
    have ha : a ∈ (if k = i then Fv else F2 k) := ha
    by_cases z : k = i
    · rw [if_pos z] at ha
      exact apart (hu a hau).2 ha
    · rw [if_neg z] at ha
      exact hdu k a ha hau
def mPar2 (i j : Nat) (f g : M Sl) : M Ctl := fun e => match f e with
  | .stuck => .stuck
  | .err k d e => .err k d e
  | .ok r e1 => match g e1 with
    | .stuck => .stuck
    | .err k d e => .err k d e
    | .ok q e2 => .ok .next ((e2.set i r).set j q)
theorem ss_par2 {te tu : TE} {f g : M Sl} {i j : Nat} (hf : SO K ax te f) (hg : SO K ax tu g) (hi : i ∉ io) (hj : j ∉ io) : SS K ax io (tPar i j (tCons te (tCons tu tNil))) (mPar2 i j f g) := fun W B H σ env E hio si gd => by
  unfold mPar2 at gd
  refine hf W B H σ env _ si ?_
  cases q : f env with
  | stuck => rw [q] at gd; exact gd
  | err k d e => rw [q] at gd; exact gd σ
  | ok r e1 =>
    rw [q] at gd
    intro v B1 H1 s1 siv
    obtain ⟨W1, i1, back, both⟩ := side siv
    refine hg W1 B1 H1 σ e1 _ i1 ?_
    dsimp only at gd
    cases q2 : g e1 with
    | stuck => rw [q2] at gd; exact gd
    | err k d e2 =>
      rw [q2] at gd
      intro v dx B2 H2 s2 si2 rd hx
      exact gd σ v dx B2 H2 (s1.trans s2) (back si2).si rd hx
    | ok q e2 =>
      rw [q2] at gd
      intro u B2 H2 s2 siv2
      exact ⟨v, u, rfl, gd _ B2 H2 (s1.trans s2) (both siv2 (by rw [hio]; exact hi) (by rw [hio]; exact hj))⟩
theorem ms_par2 (i j : Nat) {y : Str} {px py pt pos2 : Pos} {kt k2 : Nat} {f g : M Sl} (nd : X.N.Nodup) (hio : io.contains i = false) (hjo : io.contains j = false) (ha : MO ax X a f) (hb : MO ax X b g) (hw : swappedStores [.Tuple [.Name x px, .Name y py] kt pt] (.Tuple [a, b] k2 pos2) X.env = pure (some [x, y]))
    (hij : i ≠ j := by decide) (hi : X.N[i]? = some x := by rfl) (hj : X.N[j]? = some y := by rfl) (hx : X.env.scope.names.lookup x = some .local := by rfl) (hy : X.env.scope.names.lookup y = some .local := by rfl) (hc : X.calm = true := by rfl)
    (hs : swapsWithSole [.Tuple [.Name x px, .Name y py] kt pt] (.Tuple [a, b] k2 pos2) pos.line X.env = pure false := by rfl) (he : starEach [a, b] X.env = (false, eval a X.env) :: starEach [b] X.env := by rfl) (he2 : starEach [b] X.env = (false, eval b X.env) :: starEach [] X.env := by rfl) :
    MS ax io X (.Assign [.Tuple [.Name x px, .Name y py] kt pt] (.Tuple [a, b] k2 pos2) pos) (mPar2 i j f g) :=
  let ⟨_, p, s⟩ := ha; let ⟨_, p', s'⟩ := hb; ⟨_, ps_par hc nd hi hj hij hx hy (pa_cons p (pa_cons p' pa_nil he2) he) hw hs, ss_par2 s s' (by simpa using hio) (by simpa using hjo)⟩
/-! ### slices -/
def MPt (ax : Ax) (X : Cx) (e : Option Expr) (f : M (Option Int)) : Prop := ∃ t, PO X e t ∧ ∀ (W : Wd) (B H : Hp) (σ : L2.St) (env : Env') (Q : Option Int → Hp → Prop), SI X.K W B H σ env → Good (fun _ a b => a = b) X.K ax W σ B Q (f env) → t σ H Q
def mNoP : M (Option Int) := fun e => .ok none e
def mPart (f : M D) : M (Option Int) := fun e => (f e).bind fun d e => match d with
  | .int i => .ok (some i) e
  | _ => .stuck
theorem mp_none : MPt ax X none mNoP := ⟨_, po_none, fun W B H σ env Q si g => g none B H (fun _ _ e => e) si rfl⟩
theorem mp_some (h : MD ax X e f) : MPt ax X (some e) (mPart f) := let ⟨_, p, s⟩ := h; ⟨_, po_some p, fun W B H σ env Q si g => s W B H σ env _ si (Good.bind g fun d e v B1 H1 s1 si1 r1 g1 => by
    cases d with
    | int i => exact ⟨i, r1.int_inv, g1 (some i) B1 H1 (fun _ _ e => e) si1 rfl⟩
    | _ => exact g1.elim)⟩
def cutL {α : Type} (xs : List α) (lo hi : Option Int) : List α := (xs.drop (HT.sIx xs.length 0 lo)).take (HT.sIx xs.length xs.length hi - HT.sIx xs.length 0 lo)
theorem cutL_length {α : Type} (xs : List α) (lo hi : Option Int) : (cutL xs lo hi).length ≤ xs.length := by
  unfold cutL; rw [List.length_take, List.length_drop]; omega
theorem RpAll.cut {vs : List V} {ds : List D} (h : RpAll K B vs ds) (lo hi : Option Int) : RpAll K B (cutV vs lo hi) (cutL ds lo hi) := by
  unfold cutV cutL
  rw [h.length]
  exact RpAll.take _ (RpAll.drop _ h)
def mSlice (f : M D) (lo hi : M (Option Int)) : M Sl := fun e => (f e).bind fun d e => (lo e).bind fun u e => (hi e).bind fun w e => match d with
  | .list ds => .ok (.own (cutL ds u w)) e
  | .tuple ds => .ok (.dat (.tuple (cutL ds u w))) e
  | _ => .stuck
def rSlX (K : PySem.W.Frag) : V → Option Int → Option Int → Hp → VK → Prop := fun x lo hi H Q => rSlL K x lo hi H Q ∨ rSlA K x lo hi H Q
theorem sl_X : SlR X (rSlX X.K) := SlR.or sl_list sl_tupA
theorem mo_slice {lo hi : Option Expr} {u w : M (Option Int)} (h : MD ax X a f) (hl : MPt ax X lo u) (hh : MPt ax X hi w) : MO ax X (.Subscript a (.Slice lo hi none p2) pos) (mSlice f u w) := by
  obtain ⟨te, p, s⟩ := h
  obtain ⟨tl, p', s'⟩ := hl
  obtain ⟨th, p'', s''⟩ := hh
  refine ⟨_, pe_slice sl_X p p' p'', fun W B H σ env Q si gd => ?_⟩
  refine s W B H σ env _ si (GoodO.bind gd fun d e v B1 H1 s1 si1 r1 g1 => s' W B1 H1 σ e _ si1 (GoodO.bind g1 fun lo e2 lo' B2 H2 s2 si2 r2 g2 => s'' W B2 H2 σ e2 _ si2 (GoodO.bind g2 fun hi e3 hi' B3 H3 s3 si3 r3 g3 => ?_)))
  subst r2 r3
  have rv := (r1.mono s2).mono s3
  cases rv with
  | lst hb z rr =>
    rename_i ad vs ds
    refine .inl ⟨ad, vs, rfl, SqL.of (si3.same _ _ hb), fun p hp => ?_⟩
    have hlen : (cutV vs lo' hi').length ≤ sizeLine := Nat.le_trans (cutV_length vs lo' hi') z
    exact g3 _ B3 _ (fun _ _ e => e) (si3.newOwnL hp (rr.cut lo' hi') hlen)
  | tup hb z rr =>
    rename_i ad vs ds
    refine .inr ⟨ad, vs, rfl, Same.sqT si3.same hb, fun hw => ?_, fun hw p hp => ?_⟩
    · have e1 : cutL ds lo' hi' = ds := by
        unfold cutL
        rw [← rr.length, hw.1, hw.2, List.drop_zero, Nat.sub_zero, rr.length, List.take_length]
      have := g3 (.ref ad) B3 H3 (fun _ _ e => e) (si3.dat (.tup hb z (by rw [e1]; exact rr)))
      exact this
    · have n := si3.newB (o := .tup (cutV vs lo' hi')) hp
      have hlen : (cutV vs lo' hi').length ≤ sizeLine := Nat.le_trans (cutV_length vs lo' hi') z
      exact g3 _ _ _ n.2 (n.1.dat (.tup (SqT.of upd_same) hlen ((rr.cut lo' hi').mono n.2)))
  | _ => exact g3.elim
end
end Lp

namespace Lp
open PySem PySem.Spec L2
set_option autoImplicit false
section
variable {ax : Ax} {X : Cx} {K : PySem.W.Frag} {W : Wd} {B B' H H' : Hp} {σ : L2.St} {env : Env'} {pos p p1 p2 p3 p4 p5 : Pos} {a b c e : Expr} {f h l : M D} {i : Nat} {io : List Nat} {x : Str} {v : V} {r : Sl}
/-! ### list(range(..)), tuple(range(..)) -/
def lr (ds : List D) : Option (List D) := match ds with
  | [.int j] => if (inR j && decide (j.toNat ≤ 16777216)) = true then some (rng 0 j.toNat) else none
  | [.int i, .int j] => if (inR i && inR j && decide ((j - i).toNat ≤ 16777216)) = true then some (rng i (j - i).toNat) else none
  | _ => none
theorem rgV_rp (a b : Int) : RpAll K B (rgV a b) (rng a (b - a).toNat) := by
  have : ∀ n : Nat, RpAll K B ((List.range n).map fun i => V.int (a + (i : Nat))) ((List.range n).map fun i => PyData.int (a + (i : Nat))) := by
    have g : ∀ l : List Nat, RpAll K B (l.map fun i => V.int (a + (i : Nat))) (l.map fun i => PyData.int (a + (i : Nat))) := by
      intro l
      induction l with
      | nil => exact .nil
      | cons i l ih => exact .cons (.int _) ih
    exact fun n => g _
  exact this _
theorem lr_inv {vs : List V} {ds ys : List D} (r : RpAll K B vs ds) (h : lr ds = some ys) : (∃ j : Int, vs = [.int j] ∧ ys = rng 0 j.toNat ∧ RgOk 0 j) ∨ ∃ i j : Int, vs = [.int i, .int j] ∧ ys = rng i (j - i).toNat ∧ RgOk i j := by
  unfold lr at h
  split at h
  · split at h
    · rename_i j hg
      simp only [Bool.and_eq_true, decide_eq_true_eq] at hg
      cases h
      obtain ⟨v, rfl, rv⟩ := r.one
      obtain rfl := rv.int_inv
      have := inR.of hg.1
      exact .inl ⟨j, rfl, rfl, by omega, by omega, this.1, this.2, by omega⟩
    · cases h
  · split at h
    · rename_i i j hg
      simp only [Bool.and_eq_true, decide_eq_true_eq] at hg
      cases h
      obtain ⟨v, u, rfl, rv, ru⟩ := r.two
      obtain rfl := rv.int_inv
      obtain rfl := ru.int_inv
      have h1 := inR.of hg.1.1
      have h2 := inR.of hg.1.2
      exact .inr ⟨i, j, rfl, rfl, h1.1, h1.2, h2.1, h2.2, by omega⟩
    · cases h
  · cases h
theorem rgV_line {i j : Int} (h : RgOk i j) : (rgV i j).length ≤ sizeLine := by
  rw [rgV_length, sizeLine_eq]; exact h.2.2.2.2
def mL1 (g : List D → Option (List D)) (k : List D → Sl) (f : M D) : M Sl := fun e => (f e).bind fun d e => match g [d] with
  | some ys => .ok (k ys) e
  | none => .stuck
def mL2 (g : List D → Option (List D)) (k : List D → Sl) (f h : M D) : M Sl := fun e => (f e).bind fun d e => (h e).bind fun d2 e => match g [d, d2] with
  | some ys => .ok (k ys) e
  | none => .stuck
def slL : List D → Sl := .own
def slT (ds : List D) : Sl := .dat (.tuple ds)
theorem SI.newTupL (si : SI K W B H σ env) {L : Addr} (hL : H L = none) {vs : List V} {ds : List D} (rr : RpAll K B vs ds) (z : vs.length ≤ sizeLine) : ∃ B', Same B B' ∧ SIV K W B' (upd H L (.tup vs)) σ env (.ref L) (.dat (.tuple ds)) := by
  have n := si.newB (o := .tup vs) hL
  exact ⟨_, n.2, n.1.dat (.tup (SqT.of upd_same) z (rr.mono n.2))⟩
theorem so_lRg1 {te : TE} (s : SD K ax te f) : SO K ax (tLstRg (tRg1 te)) (mL1 lr slL f) := fun W B H σ env Q si gd =>
  s W B H σ env _ si (GoodO.bind gd fun d e v B1 H1 s1 si1 r1 g1 => by
    cases q : lr [d] with
    | none => rw [q] at g1; exact g1.elim
    | some ys =>
      rw [q] at g1
      rcases lr_inv (vs := [v]) (.cons r1 .nil) q with ⟨j, e1, rfl, ok⟩ | ⟨i, j, e1, _, _⟩
      · cases e1
        refine ⟨j, rfl, ok, fun l hl => ?_⟩
        have rr := rgV_rp (K := K) (B := B1) 0 j
        rw [Int.sub_zero] at rr
        exact g1 _ B1 _ (fun _ _ e => e) (si1.newOwnL hl rr (rgV_line ok))
      · cases e1)
theorem so_tRg1 {te : TE} (s : SD K ax te f) : SO K ax (tTupRg (tRg1 te)) (mL1 lr slT f) := fun W B H σ env Q si gd =>
  s W B H σ env _ si (GoodO.bind gd fun d e v B1 H1 s1 si1 r1 g1 => by
    cases q : lr [d] with
    | none => rw [q] at g1; exact g1.elim
    | some ys =>
      rw [q] at g1
      rcases lr_inv (vs := [v]) (.cons r1 .nil) q with ⟨j, e1, rfl, ok⟩ | ⟨i, j, e1, _, _⟩
      · cases e1
        refine ⟨j, rfl, ok, fun l hl => ?_⟩
        have rr := rgV_rp (K := K) (B := B1) 0 j
        rw [Int.sub_zero] at rr
        obtain ⟨B2, sb, siv⟩ := si1.newTupL hl rr (rgV_line ok)
        exact g1 _ B2 _ sb siv
      · cases e1)
theorem so_lRg2 {te tu : TE} (s : SD K ax te f) (s' : SD K ax tu h) : SO K ax (tLstRg (tRg2 te tu)) (mL2 lr slL f h) := fun W B H σ env Q si gd =>
  s W B H σ env _ si (GoodO.bind gd fun d e v B1 H1 s1 si1 r1 g1 => s' W B1 H1 σ e _ si1 (GoodO.bind g1 fun d2 e2 u B2 H2 s2 si2 r2 g2 => by
    cases q : lr [d, d2] with
    | none => rw [q] at g2; exact g2.elim
    | some ys =>
      rw [q] at g2
      rcases lr_inv (vs := [v, u]) (.cons (r1.mono s2) (.cons r2 .nil)) q with ⟨j, e1, _, _⟩ | ⟨i, j, e1, rfl, ok⟩
      · cases e1
      · cases e1
        exact ⟨i, j, rfl, rfl, ok, fun l hl => g2 _ B2 _ (fun _ _ e => e) (si2.newOwnL hl (rgV_rp i j) (rgV_line ok))⟩))
theorem mo_listRg1 {p' pos' : Pos} (hm : X.mg "list" = none) (hr : X.mg "range" = none) (ha : MD ax X a f) (hg : Gl X "list" := by rfl) (hgr : Gl X "range" := by rfl) (hc : X.calm = true := by rfl) (na : starEach [a] X.env = (false, eval a X.env) :: starEach [] X.env := by rfl)
    (nb : starEach [.Call (.Name "range" p') [a] [] pos'] X.env = (false, eval (.Call (.Name "range" p') [a] [] pos') X.env) :: starEach [] X.env := by rfl) : MO ax X (.Call (.Name "list" p) [.Call (.Name "range" p') [a] [] pos'] [] pos) (mL1 lr slL f) :=
  let ⟨_, q, s⟩ := ha; ⟨_, pe_listRg hc hg hm (prg_1 hgr hr q na) nb, so_lRg1 s⟩
theorem mo_tupRg1 {p' pos' : Pos} (hm : X.mg "tuple" = none) (hr : X.mg "range" = none) (ha : MD ax X a f) (hg : Gl X "tuple" := by rfl) (hgr : Gl X "range" := by rfl) (hc : X.calm = true := by rfl) (na : starEach [a] X.env = (false, eval a X.env) :: starEach [] X.env := by rfl)
    (nb : starEach [.Call (.Name "range" p') [a] [] pos'] X.env = (false, eval (.Call (.Name "range" p') [a] [] pos') X.env) :: starEach [] X.env := by rfl) : MO ax X (.Call (.Name "tuple" p) [.Call (.Name "range" p') [a] [] pos'] [] pos) (mL1 lr slT f) :=
  let ⟨_, q, s⟩ := ha; ⟨_, pe_tupRg hc hg hm (prg_1 hgr hr q na) nb, so_tRg1 s⟩
theorem mo_listRg2 {p' pos' : Pos} (hm : X.mg "list" = none) (hr : X.mg "range" = none) (ha : MD ax X a f) (hb : MD ax X b h) (hg : Gl X "list" := by rfl) (hgr : Gl X "range" := by rfl) (hc : X.calm = true := by rfl) (na : starEach [a, b] X.env = (false, eval a X.env) :: starEach [b] X.env := by rfl)
    (nc : starEach [b] X.env = (false, eval b X.env) :: starEach [] X.env := by rfl) (hp : (backTo pos' (starEach [b] X.env)).any (·.1) = false := by rfl)
    (nb : starEach [.Call (.Name "range" p') [a, b] [] pos'] X.env = (false, eval (.Call (.Name "range" p') [a, b] [] pos') X.env) :: starEach [] X.env := by rfl) : MO ax X (.Call (.Name "list" p) [.Call (.Name "range" p') [a, b] [] pos'] [] pos) (mL2 lr slL f h) :=
  let ⟨_, q, s⟩ := ha; let ⟨_, q', s'⟩ := hb; ⟨_, pe_listRg hc hg hm (prg_2 hgr hr q q' na nc hp) nb, so_lRg2 s s'⟩
end
end Lp

namespace Lp
open PySem PySem.Spec L2
set_option autoImplicit false
/-! ### mixed -/
def m__law_mixed : M Ctl := mSeq (mPar2 2 3 (mBO listF (mCons (mVar 1) mNil)) (mLst mNil)) (mSeq (mWhile 1000000 (mOwnNe 2 false) (mApp 3 (mPopAt 2 (mFz (mCallIO 0 g__law_any (mCons (mOwnLen 2) mNil))))) []) (mRetV 3))
def g__law_mixed : Env' → Out Sl := gOf 4 2 m__law_mixed
end Lp

namespace Lp
open PySem PySem.Spec L2
set_option autoImplicit false
section
variable {K : PySem.W.Frag} {X : Cx}
/-! ### in, not in -/
def rInA (K : PySem.W.Frag) (b : Bool) : R2 := fun x y H Q => ∃ d ds, Dp K H x d ∧ (Dp K H y (.list ds) ∨ Dp K H y (.tuple ds)) ∧ SeqAt.shaped d = true ∧ SeqAt.shaped (.list ds) = true ∧ Q (.bl (b == ds.any fun z => PyData.eqv z d)) H
theorem op_inD (hu : X.A.units + 65 < cLine) : OpR X (compareOp .In) (rInA X.K true) := by
  intro pins s σ H x y v u Q I rx ry h
  obtain ⟨d, ds, hd, he, sd, se, q⟩ := h
  have q' : Q (.bl (ds.any fun z => PyData.eqv z d)) H := by simpa using q
  obtain ⟨as, r1⟩ := Dp.reads I d x v hd rx
  rcases he with he | he
  · exact L2.op_inD hu pins s σ H x y v u Q I rx ry ⟨d, ds, hd, he, sd, se, q'⟩
  · obtain ⟨bs, r2⟩ := Dp.reads I (.tuple ds) y u he ry
    exact SeqAt.in_tuple_reads r2 r1 (own_shaped se) (SeqAt.canLay_of_shaped sd) (PyProof.Rows.room_in_shaped sd hu) ⟨.bl _, H, I, rfl, q'⟩
theorem op_ninD (hu : X.A.units + 65 < cLine) : OpR X (compareOp .NotIn) (rInA X.K false) := by
  intro pins s σ H x y v u Q I rx ry h
  obtain ⟨d, ds, hd, he, sd, se, q⟩ := h
  have q' : Q (.bl (!ds.any fun z => PyData.eqv z d)) H := by simpa using q
  obtain ⟨as, r1⟩ := Dp.reads I d x v hd rx
  rcases he with he | he
  · exact L2.op_notInD hu pins s σ H x y v u Q I rx ry ⟨d, ds, hd, he, sd, se, q'⟩
  · obtain ⟨bs, r2⟩ := Dp.reads I (.tuple ds) y u he ry
    exact SeqAt.notIn_tuple_reads r2 r1 (own_shaped se) (SeqAt.canLay_of_shaped sd) (PyProof.Rows.room_in_shaped sd hu) ⟨.bl _, H, I, rfl, q'⟩
def inG (b : Bool) (x y : D) : Option D := match y with
  | .list ds => if (SeqAt.shaped x && SeqAt.shaped (.list ds)) = true then some (.bool (b == ds.any fun z => PyData.eqv z x)) else none
  | .tuple ds => if (SeqAt.shaped x && SeqAt.shaped (.list ds)) = true then some (.bool (b == ds.any fun z => PyData.eqv z x)) else none
  | _ => none
abbrev inD : D → D → Option D := inG true
abbrev ninD : D → D → Option D := inG false
theorem pure_inG {b : Bool} : Pure2 K (rInA K b) (inG b) := fun B H x y a c d Q s rx ry e q => by
  unfold inG at e
  split at e
  · split at e
    · rename_i ds hg
      simp only [Bool.and_eq_true] at hg
      cases e
      cases ry with
      | lst hb z rr => exact ⟨a, ds, rp_dp (rx.mono s) (SeqAt.canLay_of_shaped hg.1), .inl (.lst (SqL.of (s _ _ hb)) (rpAll_dp (rr.mono s) (own_shaped hg.2))), hg.1, hg.2, pure_val s q (.bl _)⟩
    · cases e
  · split at e
    · rename_i ds hg
      simp only [Bool.and_eq_true] at hg
      cases e
      cases ry with
      | tup hb z rr => exact ⟨a, ds, rp_dp (rx.mono s) (SeqAt.canLay_of_shaped hg.1), .inr (.tup (Same.sqT s hb) (rpAll_dp (rr.mono s) (own_shaped hg.2))), hg.1, hg.2, pure_val s q (.bl _)⟩
    · cases e
  · cases e
theorem pure_in : Pure2 K (rInA K true) inD := pure_inG
theorem pure_nin : Pure2 K (rInA K false) ninD := pure_inG
end
end Lp

namespace Lp
open PySem PySem.Spec L2
/-! ### common lemmas (some written first for k19) -/
theorem ixN_nat {n a : Nat} (h : a < n) : L2.ixN n (a : Int) = some a := by
  unfold L2.ixN
  rw [if_pos (by omega), if_pos (by omega)]
  simp
theorem map_set_int {f : List Int} {a : Nat} {x : Int} : (f.map PyData.int).set a (.int x) = (f.set a x).map PyData.int := by rw [List.map_set]
theorem min2_int {a b : Int} : min2D [.int a, .int b] = some (.int (min a b)) := by
  show some (PyData.int (if b < a then b else a)) = _
  congr 2
  split <;> omega
theorem i_varO {V : D → Env' → Prop} {e : Env'} {i : Nat} {ds : List D} (hv : e[i]? = some (.own ds)) (q : V (.list ds) (e.set i (.dat (.list ds)))) : Wp (mVar i e) V := wp_var.mpr (by rw [hv]; exact q)
theorem neX_list_nil {xs : List D} {w k : Nat} (h : Tame w k (.list xs)) (hk : k ≤ 64) : neX (.list xs) (.list []) = some (.bool (!xs.isEmpty)) := by
  show (if (SeqAt.shaped (.list xs) && SeqAt.shaped (.list [])) = true then some (PyData.bool (!PyData.eqv (.list xs) (.list []))) else none) = _
  rw [if_pos (by rw [h.shaped hk, shaped_nil]; rfl), eqvAll_nil]
theorem atI_nat {α : Type} {xs : List α} {a : Nat} {x : α} (h : xs[a]? = some x) : L2.atI xs (a : Int) = some x := by
  unfold L2.atI
  rw [ixN_nat (List.getElem?_eq_some_iff.mp h).1]
  exact h
theorem i_ownIx {V : D → Env' → Prop} {e : Env'} {i : Nat} {k : M D} {f : List Int} {a : Nat} {x : Int} (he : e[i]? = some (.own (f.map PyData.int))) (hk : Wp (k e) fun d e' => d = .int (a : Nat) ∧ e' = e) (hx : f[a]? = some x) (q : V (.int x) e) : Wp (mOwnIx i k e) V := by
  obtain ⟨d, e', h1, rfl, rfl⟩ := hk.ex
  unfold mOwnIx
  rw [he, h1]
  simp only [Out.bind_ok, he]
  have : L2.atI (f.map PyData.int) (a : Int) = some (.int x) := atI_nat (by rw [List.getElem?_map, hx]; rfl)
  rw [this]
  exact wp_ofO_some.mpr q
theorem i_ownLen {V : D → Env' → Prop} {e : Env'} {i : Nat} {ds : List D} (he : e[i]? = some (.own ds)) (q : V (.int ds.length) e) : Wp (mOwnLen i e) V := by
  unfold mOwnLen
  rw [he]
  exact wp_ok.mpr q
theorem i_setIx {S : Ctl → Env' → Prop} {e : Env'} {i : Nat} {k v : M D} {f : List Int} {a : Nat} {x : Int} (he : e[i]? = some (.own (f.map PyData.int))) (hv : Wp (v e) fun d e' => d = .int x ∧ e' = e) (hk : Wp (k e) fun d e' => d = .int (a : Nat) ∧ e' = e) (ha : a < f.length) (q : S .next (e.set i (.own ((f.set a x).map PyData.int)))) : Wp (mSetIx i k v e) S := by
  obtain ⟨d, e', h1, rfl, rfl⟩ := hv.ex
  obtain ⟨d, e', h2, rfl, rfl⟩ := hk.ex
  unfold mSetIx
  rw [h1]
  simp only [Out.bind_ok, he, h2, List.length_map, ixN_nat ha]
  rw [map_set_int]
  exact wp_ok.mpr q
def grow1 (row : List Int) (c : List Int) : List (List Int) := row.map fun o => c ++ [o]
def choicesZ (rows : List (List Int)) : List (List Int) := rows.foldl (fun found row => found.flatMap (grow1 row)) [[]]
def tI (xs : List Int) : D := .tuple (xs.map PyData.int)
def lI (xs : List Int) : D := .list (xs.map PyData.int)
theorem choices_len : ∀ (rows : List (List Int)) (acc : List (List Int)) (m : Nat), (∀ c ∈ acc, c.length = m) → ∀ c ∈ rows.foldl (fun found row => found.flatMap (grow1 row)) acc, c.length = m + rows.length
  | [], acc, m, h, c, hc => h c hc
  | row :: rows, acc, m, h, c, hc => by
    have := choices_len rows (acc.flatMap (grow1 row)) (m + 1) (fun c hc => by
      obtain ⟨b, hb, hc⟩ := List.mem_flatMap.mp hc
      obtain ⟨o, _, rfl⟩ := List.mem_map.mp hc
      rw [List.length_append, h b hb]; rfl) c hc
    rw [this, List.length_cons]; omega
theorem catT_int {c : List Int} {o : Int} (h : c.length ≤ 1000) : addD (tI c) (.tuple [.int o]) = some (tI (c ++ [o])) := by
  show oOr addI (oOr catL catT) _ _ = _
  unfold oOr
  have e1 : addI (tI c) (.tuple [.int o]) = none := rfl
  have e2 : catL (tI c) (.tuple [.int o]) = none := rfl
  rw [e1]; dsimp only; rw [e2]; dsimp only
  show (if (c.map PyData.int).length + [PyData.int o].length ≤ 16777216 then some (PyData.tuple (c.map PyData.int ++ [PyData.int o])) else none) = _
  rw [if_pos (by simp; omega)]
  unfold tI
  rw [List.map_append]; rfl
theorem catL_map {α : Type} {φ : α → D} {xs ys : List α} (h : xs.length + ys.length ≤ 16777216) : addD (.list (xs.map φ)) (.list (ys.map φ)) = some (.list ((xs ++ ys).map φ)) := by
  rw [catL_ok (by simpa using h), List.map_append]
theorem sumD_int (ns : List Int) : sumD [.tuple (ns.map PyData.int)] = some (.int ns.sum) := by
  show (intsD (ns.map PyData.int)).map _ = _
  rw [intsD_map]; rfl
theorem min_ints {x : Int} {xs : List Int} : ∃ m, bestD PySem.W.minD [.list ((x :: xs).map PyData.int)] = some (.int m) ∧ m ∈ x :: xs ∧ ∀ y ∈ x :: xs, m ≤ y := by
  have ok : ordOk ((x :: xs).map PyData.int) = true := by
    unfold ordOk alikeB
    have d1 : ∀ ps : List Int, PyData.canLayAll0 (ps.map PyData.int) = true ∧ PyData.depthAll (ps.map PyData.int) ≤ 1 := by
      intro ps
      induction ps with
      | nil => exact ⟨rfl, Nat.zero_le _⟩
      | cons p ps ih => simp [PyData.canLayAll0, PyData.depthAll, PyData.canLay0, PyData.depth, ih.1]; have := ih.2; omega
    simp only [Bool.and_eq_true, List.all_eq_true, decide_eq_true_eq]
    refine ⟨⟨⟨fun a ha b hb => ?_, fun a ha => ?_⟩, (d1 _).1⟩, by have := (d1 (x :: xs)).2; omega⟩
    · obtain ⟨p, _, rfl⟩ := List.mem_map.mp ha
      obtain ⟨r, _, rfl⟩ := List.mem_map.mp hb
      simp [PySem.W.alike]
    · obtain ⟨p, _, rfl⟩ := List.mem_map.mp ha
      rfl
  have fold : ∀ (qs : List Int) (a : Int), ∃ m, (qs.map PyData.int).foldl (fun a y => if PySem.W.dataLt y a then y else a) (.int a) = .int m ∧ (m = a ∨ m ∈ qs) ∧ m ≤ a ∧ ∀ r ∈ qs, m ≤ r := by
    intro qs
    induction qs with
    | nil => exact fun a => ⟨a, rfl, .inl rfl, Int.le_refl _, by simp⟩
    | cons p ps ih =>
      intro a
      rw [List.map_cons, List.foldl_cons, PySem.W.dataLt_int]
      by_cases hc : p < a
      · rw [decide_eq_true hc, if_pos rfl]
        obtain ⟨m, e, h1, h2, h3⟩ := ih p
        refine ⟨m, e, ?_, by omega, fun r hr => ?_⟩
        · rcases h1 with z | z
          · exact .inr (by rw [z]; simp)
          · exact .inr (List.mem_cons_of_mem _ z)
        · rcases List.mem_cons.mp hr with z | z
          · rw [z]; exact h2
          · exact h3 r z
      · rw [decide_eq_false hc, if_neg (by decide)]
        obtain ⟨m, e, h1, h2, h3⟩ := ih a
        refine ⟨m, e, ?_, h2, fun r hr => ?_⟩
        · rcases h1 with z | z
          · exact .inl z
          · exact .inr (List.mem_cons_of_mem _ z)
        · rcases List.mem_cons.mp hr with z | z
          · rw [z]; omega
          · exact h3 r z
  obtain ⟨m, e, h1, h2, h3⟩ := fold xs x
  refine ⟨m, ?_, by rcases h1 with z | z; exact (by rw [z]; simp); exact List.mem_cons_of_mem _ z, fun r hr => by rcases List.mem_cons.mp hr with z | z; exact (by rw [z]; exact h2); exact h3 r z⟩
  show (if ordOk ((x :: xs).map PyData.int) = true then some (PySem.W.minD (.int x) (xs.map PyData.int)) else none) = _
  rw [if_pos ok]
  unfold PySem.W.minD
  rw [e]
theorem i_callIO {T : Sl → Env' → Prop} {e : Env'} {i : Nat} {g : Env' → Out Sl} {fa : M (List D)} {c : List Int} {b : Int} (he : e[i]? = some (.deal c b))
    (q : Wp (fa e) fun ds e' => ∃ c' b', e'[i]? = some (.deal c' b') ∧ Wp (g (.deal c' b' :: ds.map .dat)) fun r e2 => T r (e'.set i (e2.getD 0 .un))) : Wp (mCallIO i g fa e) T := by
  obtain ⟨ds, e', h1, c', b', h2, h3⟩ := q.ex
  obtain ⟨r, e2, h4, h5⟩ := h3.ex
  unfold mCallIO
  rw [he]
  show Wp ((fa e).bind _) T
  rw [h1]
  simp only [Out.bind_ok, h2, h4]
  exact wp_ok.mpr h5
theorem eqX_bool {a b : Bool} : eqX (.bool a) (.bool b) = some (.bool (a == b)) := by cases a <;> cases b <;> rfl
theorem neX_bool {a b : Bool} : neX (.bool a) (.bool b) = some (.bool (!(a == b))) := by cases a <;> cases b <;> rfl

/-! ### three results side by side -/
section
set_option autoImplicit false
variable {ax : Ax} {X : Cx} {K : PySem.W.Frag} {W : Wd} {B B' H H' : Hp} {σ : L2.St} {env : Env'} {pos p1 p2 p3 p4 p5 : Pos} {a b c e : Expr} {f h l : M D} {i : Nat} {io : List Nat} {x : Str} {v : V} {r : Sl}
def mPar3 (i j l : Nat) (fa : M (List D)) : M Ctl := fun e => (fa e).bind fun ds e => match ds with
  | [d1, d2, d3] => .ok .next (((e.set i (.dat d1)).set j (.dat d2)).set l (.dat d3))
  | _ => .stuck
theorem ss_par3 {ta : TA} {fa : M (List D)} {i j l : Nat} (h : SA K ax ta fa) (hi : i ∉ io) (hj : j ∉ io) (hl : l ∉ io) : SS K ax io (tPar3 i j l ta) (mPar3 i j l fa) := fun W B H σ env E hio si gd =>
  h W B H σ env _ si (GoodS.bind gd fun ds e vs B1 H1 s1 si1 r1 g1 => by
    cases r1 with
    | nil => exact g1.elim
    | cons ra r1 => cases r1 with
      | nil => exact g1.elim
      | cons rb r1 => cases r1 with
        | nil => exact g1.elim
        | cons rc r1 => cases r1 with
          | nil =>
            refine ⟨_, _, _, rfl, ?_⟩
            exact g1 _ B1 H1 (fun _ _ e => e) (((si1.put (by rw [hio]; exact hi) ra).put (by rw [hio]; exact hj) rb).put (by rw [hio]; exact hl) rc)
          | cons _ _ => exact g1.elim)
theorem ms_par3 (i j l : Nat) {y z : Str} {px py pz pt pos2 : Pos} {kt k2 : Nat} {fa : M (List D)} (nd : X.N.Nodup) (hio : io.contains i = false) (hjo : io.contains j = false) (hlo : io.contains l = false) (ha : MA ax X [a, b, c] fa) (hw : swappedStores [.Tuple [.Name x px, .Name y py, .Name z pz] kt pt] (.Tuple [a, b, c] k2 pos2) X.env = pure (some [x, y, z]))
    (hij : i ≠ j := by decide) (hil : i ≠ l := by decide) (hjl : j ≠ l := by decide) (hi : X.N[i]? = some x := by rfl) (hj : X.N[j]? = some y := by rfl) (hl : X.N[l]? = some z := by rfl) (hx : X.env.scope.names.lookup x = some .local := by rfl) (hy : X.env.scope.names.lookup y = some .local := by rfl) (hz : X.env.scope.names.lookup z = some .local := by rfl) (hc : X.calm = true := by rfl)
    (hs : swapsWithSole [.Tuple [.Name x px, .Name y py, .Name z pz] kt pt] (.Tuple [a, b, c] k2 pos2) pos.line X.env = pure false := by rfl) :
    MS ax io X (.Assign [.Tuple [.Name x px, .Name y py, .Name z pz] kt pt] (.Tuple [a, b, c] k2 pos2) pos) (mPar3 i j l fa) :=
  let ⟨_, p, s⟩ := ha; ⟨_, ps_par3 hc nd hi hj hl hij hil hjl hx hy hz p hw hs, ss_par3 s (by simpa using hio) (by simpa using hjo) (by simpa using hlo)⟩
end
section
variable {V : D → Env' → Prop} {U : Bool → Env' → Prop} {Z : List D → Env' → Prop} {S : Ctl → Env' → Prop} {T : Sl → Env' → Prop} {e : Env'} {f h l : M D} {fa : M (List D)} {i j : Nat} {d x y : D} {m : M Sl}
theorem i_par3 {l : Nat} (q : Wp (fa e) fun ds e => ∃ d1 d2 d3, ds = [d1, d2, d3] ∧ S .next (((e.set i (.dat d1)).set j (.dat d2)).set l (.dat d3))) : Wp (mPar3 i j l fa e) S := by
  obtain ⟨ds, e1, h1, d1, d2, d3, rfl, h2⟩ := q.ex
  unfold mPar3
  rw [h1]
  exact wp_ok.mpr h2
theorem i_par2 {g : M Sl} (q : Wp (m e) fun r e => Wp (g e) fun q e => S .next ((e.set i r).set j q)) : Wp (mPar2 i j m g e) S := by
  obtain ⟨r, e1, h1, h2⟩ := q.ex
  obtain ⟨q, e2, h3, h4⟩ := h2.ex
  unfold mPar2
  rw [h1]
  dsimp only
  rw [h3]
  exact wp_ok.mpr h4
theorem i_noP {P : Option Int → Env' → Prop} (q : P none e) : Wp (mNoP e) P := by unfold mNoP; exact wp_ok.mpr q
theorem i_part {P : Option Int → Env' → Prop} (q : Wp (f e) fun d e => ∃ k, d = .int k ∧ P (some k) e) : Wp (mPart f e) P := by
  obtain ⟨d, e1, h1, k, rfl, h2⟩ := q.ex
  unfold mPart
  rw [h1]
  exact wp_ok.mpr h2
theorem i_sliceT {lo hi : M (Option Int)} (q : Wp (f e) fun d e => ∃ ds, d = .tuple ds ∧ Wp (lo e) fun u e => Wp (hi e) fun w e => T (.dat (.tuple (cutL ds u w))) e) : Wp (mSlice f lo hi e) T := by
  obtain ⟨d, e1, h1, ds, rfl, h2⟩ := q.ex
  obtain ⟨u, e2, h3, h4⟩ := h2.ex
  obtain ⟨w, e3, h5, h6⟩ := h4.ex
  unfold mSlice
  rw [h1]
  simp only [Out.bind_ok, h3, h5]
  exact wp_ok.mpr h6
theorem i_sliceL {lo hi : M (Option Int)} (q : Wp (f e) fun d e => ∃ ds, d = .list ds ∧ Wp (lo e) fun u e => Wp (hi e) fun w e => T (.own (cutL ds u w)) e) : Wp (mSlice f lo hi e) T := by
  obtain ⟨d, e1, h1, ds, rfl, h2⟩ := q.ex
  obtain ⟨u, e2, h3, h4⟩ := h2.ex
  obtain ⟨w, e3, h5, h6⟩ := h4.ex
  unfold mSlice
  rw [h1]
  simp only [Out.bind_ok, h3, h5]
  exact wp_ok.mpr h6
theorem cutL_take {α : Type} {xs : List α} {k : Int} (h : 0 ≤ k) : cutL xs none (some k) = xs.take k.toNat := by
  unfold cutL
  have e1 : HT.sIx xs.length 0 none = 0 := rfl
  have e2 : HT.sIx xs.length xs.length (some k) = min k.toNat xs.length := by
    show (if k < 0 then (k + (xs.length : Int)).toNat else min k.toNat xs.length) = _
    rw [if_neg (by omega)]
  rw [e1, e2, List.drop_zero, Nat.sub_zero]
  rw [← List.take_eq_take_min]
theorem cutL_drop {α : Type} {xs : List α} {k : Int} (h : 0 ≤ k) : cutL xs (some k) none = xs.drop k.toNat := by
  unfold cutL
  have e1 : HT.sIx xs.length 0 (some k) = min k.toNat xs.length := by
    show (if k < 0 then (k + (xs.length : Int)).toNat else min k.toNat xs.length) = _
    rw [if_neg (by omega)]
  have e2 : HT.sIx xs.length xs.length none = xs.length := rfl
  rw [e1, e2]
  have : xs.drop (min k.toNat xs.length) = xs.drop k.toNat := by
    by_cases z : k.toNat ≤ xs.length
    · rw [Nat.min_eq_left z]
    · rw [Nat.min_eq_right (by omega), List.drop_length, List.drop_of_length_le (by omega)]
  rw [this, List.take_of_length_le (by rw [List.length_drop]; omega)]
theorem cutL_last {α : Type} {xs : List α} : cutL xs none (some (-1)) = xs.dropLast := by
  unfold cutL
  have e1 : HT.sIx xs.length 0 none = 0 := rfl
  have e2 : HT.sIx xs.length xs.length (some (-1)) = xs.length - 1 := by
    show (if (-1 : Int) < 0 then ((-1) + (xs.length : Int)).toNat else min (-1 : Int).toNat xs.length) = _
    rw [if_pos (by omega)]; omega
  rw [e1, e2, List.drop_zero, Nat.sub_zero, List.dropLast_eq_take]
theorem i_ownNe {b : Bool} {ds : List D} (he : e[i]? = some (.own ds)) (sh : SeqAt.shaped (.list ds) = true) (q : U (b == ds.isEmpty) e) : Wp (mOwnNe i b e) U := by
  unfold mOwnNe
  rw [he]
  show Wp (if SeqAt.shaped (.list ds) = true then _ else _) U
  rw [if_pos sh]
  exact wp_ok.mpr q
theorem i_app {ds0 : List D} (he : e[i]? = some (.own ds0)) (q : Wp (f e) fun d e' => ∃ ds, e'[i]? = some (.own ds) ∧ ds.length < 16777216 ∧ S .next (e'.set i (.own (ds ++ [d])))) : Wp (mApp i f e) S := by
  obtain ⟨d, e1, h1, ds, h2, h3, h4⟩ := q.ex
  unfold mApp
  rw [he]
  show Wp ((f e).bind _) S
  rw [h1]
  simp only [Out.bind_ok, h2, if_pos h3]
  exact wp_ok.mpr h4
theorem i_popAt {ds0 : List D} {k : M D} (he : e[i]? = some (.own ds0)) (q : Wp (k e) fun d e' => ∃ (ds : List D) (n : Nat) (x : D), e'[i]? = some (.own ds) ∧ d = .int (n : Nat) ∧ ds[n]? = some x ∧ n ≤ 1000000000 ∧ V x (e'.set i (.own (ds.eraseIdx n)))) : Wp (mPopAt i k e) V := by
  obtain ⟨d, e1, h1, ds, n, x, h2, rfl, h3, h4, h5⟩ := q.ex
  have hn : n < ds.length := (List.getElem?_eq_some_iff.mp h3).1
  have hr : inR (n : Int) = true := inR_of (by omega) (by omega)
  have hs : seqIndex? (n : Int) ds.length = some n := by
    unfold seqIndex?
    rw [if_neg (by omega : ¬ (n : Int) < 0)]
    rw [if_pos (by simp; omega), Int.toNat_natCast]
  unfold mPopAt
  rw [he]
  show Wp ((k e).bind _) V
  rw [h1]
  simp only [Out.bind_ok, h2, if_pos hr, hs, h3]
  exact wp_ok.mpr h5
end
/-! ### rows in order -/
theorem dataLt_tI (x y : List Int) : PySem.W.dataLt (tI x) (tI y) = decide (x < y) := by
  unfold tI
  rw [PySem.W.dataLt_tuple]
  exact PySem.W.dataLt_ints x y
theorem dataLe_tI {β : Type} (k : β → List Int) (p q : β) : PySem.W.dataLe false (fun b => tI (k b)) p q = decide (k p ≤ k q) := by
  show (!PySem.W.dataLt (tI (k q)) (tI (k p))) = _
  rw [dataLt_tI]
  by_cases h : k q < k p
  · have h' : ¬ k p ≤ k q := fun r => List.not_lt.mpr r h
    simp [h, h']
  · have h' : k p ≤ k q := List.not_lt.mp h
    simp [h, h']
theorem alike_ints : ∀ (x y : List Int), PySem.W.alikeAll (x.map PyData.int) (y.map PyData.int) = true
  | [], [] => by simp [PySem.W.alikeAll]
  | [], y :: ys => by simp [PySem.W.alikeAll]
  | x :: xs, [] => by simp [PySem.W.alikeAll]
  | x :: xs, y :: ys => by
    simp only [List.map_cons, PySem.W.alikeAll, Bool.and_eq_true]
    exact ⟨by simp [PySem.W.alike], alike_ints xs ys⟩
theorem alike_tI (x y : List Int) : PySem.W.alike (tI x) (tI y) = true := by
  unfold tI
  simp only [PySem.W.alike]
  exact alike_ints x y
theorem lay_ints : ∀ x : List Int, PyData.canLayAll0 (x.map PyData.int) = true ∧ PyData.depthAll (x.map PyData.int) ≤ 1
  | [] => ⟨rfl, Nat.zero_le _⟩
  | x :: xs => by
    have := lay_ints xs
    simp [PyData.canLayAll0, PyData.depthAll, PyData.canLay0, PyData.depth, this.1]
    omega
theorem lay_tIs : ∀ xs : List (List Int), PyData.canLayAll0 (xs.map tI) = true ∧ PyData.depthAll (xs.map tI) ≤ 2
  | [] => ⟨rfl, Nat.zero_le _⟩
  | x :: xs => by
    have h1 := lay_ints x
    have h2 := lay_tIs xs
    simp [PyData.canLayAll0, PyData.depthAll, tI, PyData.canLay0, PyData.depth, h1.1, h2.1]
    have h3 := h2.2
    unfold tI at h3
    omega
def sortI (xs : List (List Int)) : List (List Int) := xs.mergeSort (fun a b => decide (a ≤ b))
theorem sortI_perm (xs : List (List Int)) : (sortI xs).Perm xs := List.mergeSort_perm _ _
theorem sortI_sorted (xs : List (List Int)) : (sortI xs).Pairwise (· ≤ ·) := by
  have := List.pairwise_mergeSort (le := fun a b : List Int => decide (a ≤ b)) (fun a b c h1 h2 => by
    rw [decide_eq_true_eq] at *
    exact List.le_trans h1 h2) (fun a b => by
    rcases List.le_total a b with h | h <;> simp [h]) xs
  exact this.imp fun h => by rw [decide_eq_true_eq] at h; exact h
theorem sorted_uniq : ∀ {xs ys : List (List Int)}, xs.Perm ys → xs.Pairwise (· ≤ ·) → ys.Pairwise (· ≤ ·) → xs = ys := fun p h1 h2 => p.eq_of_pairwise (fun a b _ _ h h' => List.le_antisymm h h') h1 h2
theorem sort_tI {xs : List (List Int)} (hne : ∀ x ∈ xs, x ≠ []) (h : xs.length ≤ 16777216) : sortF [.list (xs.map tI)] = some ((sortI xs).map tI) := by
  have ok : sortOk (xs.map tI) = true := by
    unfold sortOk alikeB
    have d1 := lay_tIs xs
    simp only [Bool.and_eq_true, Bool.or_eq_true, List.all_eq_true, decide_eq_true_eq, List.length_map]
    refine ⟨⟨⟨⟨⟨fun x hx y hy => ?_, fun x hx => ?_⟩, d1.1⟩, by omega⟩, h⟩, .inl fun x hx => ?_⟩
    · obtain ⟨p, _, rfl⟩ := List.mem_map.mp hx
      obtain ⟨q, _, rfl⟩ := List.mem_map.mp hy
      exact alike_tI p q
    · obtain ⟨p, _, rfl⟩ := List.mem_map.mp hx
      rfl
    · obtain ⟨p, hp, rfl⟩ := List.mem_map.mp hx
      cases p with
      | nil => exact absurd rfl (hne _ hp)
      | cons a l => rfl
  show (if sortOk (xs.map tI) = true then some (sortedD (xs.map tI)) else none) = _
  rw [if_pos ok]
  unfold sortedD sortI
  rw [← List.map_mergeSort (f := tI) (r := fun a b : List Int => decide (a ≤ b)) fun a _ b _ => (dataLe_tI (fun x => x) a b).symm]
def sortZ (xs : List Int) : List Int := xs.mergeSort (fun a b => decide (a ≤ b))
theorem sortZ_perm (xs : List Int) : (sortZ xs).Perm xs := List.mergeSort_perm _ _
theorem sortZ_sorted (xs : List Int) : (sortZ xs).Pairwise (· ≤ ·) := by
  have := List.pairwise_mergeSort (le := fun a b : Int => decide (a ≤ b)) (fun a b c h1 h2 => by
    rw [decide_eq_true_eq] at *; omega) (fun a b => by
    rw [Bool.or_eq_true, decide_eq_true_eq, decide_eq_true_eq]; omega) xs
  exact this.imp fun h => by rw [decide_eq_true_eq] at h; exact h
theorem sort_int {xs : List Int} (h : xs.length ≤ 16777216) : sortF [.list (xs.map PyData.int)] = some ((sortZ xs).map PyData.int) := by
  have ok : sortOk (xs.map PyData.int) = true := by
    unfold sortOk alikeB
    have d1 := lay_ints xs
    simp only [Bool.and_eq_true, Bool.or_eq_true, List.all_eq_true, decide_eq_true_eq, List.length_map]
    refine ⟨⟨⟨⟨⟨fun x hx y hy => ?_, fun x hx => ?_⟩, d1.1⟩, by omega⟩, h⟩, .inr fun x hx => ?_⟩
    · obtain ⟨p, _, rfl⟩ := List.mem_map.mp hx
      obtain ⟨q, _, rfl⟩ := List.mem_map.mp hy
      simp [PySem.W.alike]
    · obtain ⟨p, _, rfl⟩ := List.mem_map.mp hx
      rfl
    · obtain ⟨p, hp, rfl⟩ := List.mem_map.mp hx
      rfl
  show (if sortOk (xs.map PyData.int) = true then some (sortedD (xs.map PyData.int)) else none) = _
  rw [if_pos ok]
  unfold sortedD sortZ
  rw [← List.map_mergeSort (f := PyData.int) (r := fun a b : Int => decide (a ≤ b)) fun a _ b _ => (congrFun (congrFun (PySem.W.dataLe_int (fun x : Int => x)) a) b).symm]
theorem perm_map_inv {α β : Type} {g : α → β} : ∀ {ys : List β} {xs : List α}, ys.Perm (xs.map g) → ∃ zs : List α, zs.Perm xs ∧ ys = zs.map g := fun {ys xs} h => by
  generalize hz : xs.map g = zs at h
  induction h generalizing xs with
  | nil => exact ⟨[], by rw [List.map_eq_nil_iff.mp hz], rfl⟩
  | cons a _ ih =>
    rename_i l1 l2 _
    obtain ⟨x, xs', rfl, hx, hxs⟩ := List.map_eq_cons_iff.mp hz
    obtain ⟨zs, h1, h2⟩ := ih hxs
    exact ⟨x :: zs, h1.cons x, by rw [h2, List.map_cons, hx]⟩
  | swap a b l =>
    obtain ⟨x, xs', rfl, hx, hxs⟩ := List.map_eq_cons_iff.mp hz
    obtain ⟨y, ys', rfl, hy, hys⟩ := List.map_eq_cons_iff.mp hxs
    exact ⟨y :: x :: ys', .swap x y ys', by rw [List.map_cons, List.map_cons, hx, hy, hys]⟩
  | trans _ _ ih1 ih2 =>
    obtain ⟨zs, h1, h2⟩ := ih2 hz
    obtain ⟨ws, h3, h4⟩ := ih1 h2.symm
    exact ⟨ws, h3.trans h1, h4⟩
/-! ### mixed -/
theorem erase_perm {α : Type} {l : List α} {n : Nat} {x : α} (h : l[n]? = some x) : (x :: l.eraseIdx n).Perm l := by
  induction l generalizing n with
  | nil => simp at h
  | cons a l ih =>
    cases n with
    | zero => simp at h; subst h; exact .refl _
    | succ n =>
      simp only [List.getElem?_cons_succ] at h
      rw [List.eraseIdx_cons_succ]
      exact (List.Perm.swap a x _).trans ((ih h).cons a)
theorem mixed_spec {ds : List D} {c : List Int} {b : Int} {w k : Nat} (hd : DealOk c b) (ht : ∀ x ∈ ds, Tame w k x) (hk : k ≤ 60) (hl : ds.length ≤ 100000) : Wp (g__law_mixed [.deal c b, .dat (.list ds)]) fun r e => ∃ es c' b', r = .own es ∧ es.Perm ds ∧ e.getD 0 .un = .deal c' b' ∧ DealOk c' b' := by
  refine (wp_gOf (by rfl)).mpr ?_
  have hlist : listF [.list ds] = some ds := rfl
  unfold m__law_mixed
  refine i_seq (i_par2 (i_bO (i_cons (i_var (d := .list ds) (by rfl) (i_nil ⟨_, hlist, i_lst (i_nil ⟨by simp, ?_⟩)⟩)))))
  refine i_seq ?_
  refine wp_whileE (fun n e => ∃ c b left found, e = [.deal c b, .dat (.list ds), .own left, .own found] ∧ DealOk c b ∧ n = left.length ∧ (found ++ left).Perm ds) (fun n e hi => ?_) (n := ds.length) ⟨c, b, ds, [], rfl, hd, rfl, .refl _⟩ (by omega)
  obtain ⟨c, b, left, found, rfl, hd, rfl, hp⟩ := hi
  have hlen : found.length + left.length = ds.length := by rw [← List.length_append]; exact hp.length_eq
  have hsh : SeqAt.shaped (.list left) = true := (tame_list (n := left.length) (fun x hx => ht x (hp.mem_iff.mp (List.mem_append_right _ hx))) (Nat.le_refl _)).shaped (by omega)
  refine i_ownNe (ds := left) (by rfl) hsh ?_
  cases left with
  | nil =>
    refine ite_f rfl ?_
    rw [List.append_nil] at hp
    exact i_retO (i_mvO (ds := found) (by rfl) ⟨found, c, b, rfl, hp, rfl, hd⟩)
  | cons a l =>
    refine ite_t rfl ?_
    refine i_app (ds0 := found) (by rfl) (i_popAt (ds0 := a :: l) (by rfl) (i_fz (wp_any (i := 0) (k := ((a :: l).length : Nat)) (by rfl) hd (i_ownLen (ds := a :: l) (by rfl) ⟨rfl, rfl⟩) (by simp only [List.length_cons]; omega) (by simp only [List.length_cons] at *; omega) fun n c b h0 h1 hd => ?_)))
    refine ⟨.int n, rfl, ?_⟩
    have hn : n.toNat < (a :: l).length := by omega
    refine ⟨a :: l, n.toNat, (a :: l)[n.toNat], rfl, by rw [Int.toNat_of_nonneg h0], List.getElem?_eq_getElem hn, by omega, found, rfl, by omega, ?_⟩
    refine ⟨((a :: l).eraseIdx n.toNat).length, ?_, c, b, (a :: l).eraseIdx n.toNat, found ++ [(a :: l)[n.toNat]], rfl, hd, rfl, ?_⟩
    · rw [List.length_eraseIdx_of_lt hn]; omega
    · rw [List.append_assoc]
      exact ((erase_perm (List.getElem?_eq_getElem hn)).append_left found).trans hp
/-! ### [..] * n, own -/
section
set_option autoImplicit false
variable {ax : Ax} {X : Cx} {K : PySem.W.Frag} {W : Wd} {B B' H H' : Hp} {σ : L2.St} {env : Env'} {pos : Pos} {a b c e : Expr} {f h l : M D} {i : Nat}
def mRepO (f h : M D) : M Sl := fun e => (f e).bind fun x e => (h e).bind fun y e => match repL x y with
  | some (.list ds) => .ok (.own ds) e
  | _ => .stuck
theorem so_rep {te tu : TE} (hf : SD K ax te f) (hh : SD K ax tu h) : SO K ax (tOp rRep te tu) (mRepO f h) := fun W B H σ env Q si gd =>
  hf W B H σ env _ si (GoodO.bind gd fun d e v B1 H1 s1 si1 r1 g1 => hh W B1 H1 σ e _ si1 (GoodO.bind g1 fun d2 e2 v2 B2 H2 s2 si2 r2 g2 => by
    have rv := r1.mono s2
    cases q : repL d d2 with
    | none => rw [q] at g2; exact g2.elim
    | some z =>
      rw [q] at g2
      unfold repL at q
      split at q
      · split at q
        · rename_i xs k hg
          simp only [Bool.and_eq_true, decide_eq_true_eq] at hg
          obtain ⟨g1, g3⟩ := hg
          cases q
          cases rv with
          | lst hb z rr =>
            rename_i l vs
            have hl : vs.length * k.toNat ≤ sizeLine := by rw [rr.length]; exact line_of g3
            have h2 := inR.of g1
            refine ⟨l, k, vs, rfl, r2.int_inv, si2.same _ _ hb, by omega, by omega, hl, fun p hp => ?_⟩
            have hz : (List.replicate k.toNat vs).flatten.length ≤ sizeLine := by
              rw [PyProof.Rows.lm_len_rep_flat, Nat.mul_comm]
              exact hl
            exact g2 _ B2 _ (fun _ _ e => e) (si2.newOwnL hp (rr.rep k.toNat) hz)
        · cases q
      · cases q))
theorem mo_rep (ha : MD ax X a f) (hb : MD ax X b h) : MO ax X (.BinOp a .Mult b pos) (mRepO f h) := let ⟨_, pa, sa⟩ := ha; let ⟨_, pb, sb⟩ := hb; ⟨_, pe_op op_rep pa pb, so_rep sa sb⟩
end
theorem i_repO {T : Sl → Env' → Prop} {e : Env'} {f h : M D} (q : Wp (f e) fun x e => Wp (h e) fun y e => ∃ ds, repL x y = some (.list ds) ∧ T (.own ds) e) : Wp (mRepO f h e) T := by
  obtain ⟨x, e1, h1, h2⟩ := q.ex
  obtain ⟨y, e2, h3, ds, h4, h5⟩ := h2.ex
  unfold mRepO
  rw [h1]
  simp only [Out.bind_ok, h3, h4]
  exact wp_ok.mpr h5
/-! ### operations on rows -/
theorem catT_ok {xs ys : List D} (h : xs.length + ys.length ≤ 16777216) : addD (.tuple xs) (.tuple ys) = some (.tuple (xs ++ ys)) := by
  show oOr addI (oOr catL catT) _ _ = _
  unfold oOr
  have e1 : addI (.tuple xs) (.tuple ys) = none := rfl
  have e2 : catL (.tuple xs) (.tuple ys) = none := rfl
  rw [e1]; dsimp only; rw [e2]; dsimp only
  show (if xs.length + ys.length ≤ 16777216 then some (PyData.tuple (xs ++ ys)) else none) = _
  rw [if_pos h]
theorem shaped_ints (xs : List Int) : SeqAt.shaped (.list (xs.map PyData.int)) = true := by
  have := lay_ints xs
  have h2 := this.2
  unfold SeqAt.shaped
  simp only [PyData.canLay0, PyData.depth, this.1, Bool.true_and, decide_eq_true_eq]
  exact decide_eq_true (by omega)
theorem shaped_int (i : Int) : SeqAt.shaped (.int i) = true := by simp [SeqAt.shaped, PyData.canLay0, PyData.depth]
theorem eqX_ints_nil (xs : List Int) : eqX (.list (xs.map PyData.int)) (.list []) = some (.bool xs.isEmpty) := by
  show (if (SeqAt.shaped (.list (xs.map PyData.int)) && SeqAt.shaped (.list [])) = true then some (PyData.bool (PyData.eqv (.list (xs.map PyData.int)) (.list []))) else none) = _
  rw [if_pos (by rw [shaped_ints, shaped_nil]; rfl), eqvAll_nil]
  cases xs <;> rfl
theorem any_ints (i : Int) (xs : List Int) : ((xs.map PyData.int).any fun z => PyData.eqv z (.int i)) = xs.any (fun x => decide (x = i)) := by
  rw [List.any_map]
  congr 1
theorem in_tI (i : Int) (xs : List Int) : inD (.int i) (tI xs) = some (.bool (xs.any fun x => decide (x = i))) := by
  show (if (SeqAt.shaped (.int i) && SeqAt.shaped (.list (xs.map PyData.int))) = true then some (PyData.bool (true == (xs.map PyData.int).any fun z => PyData.eqv z (.int i))) else none) = _
  rw [if_pos (by rw [shaped_ints, shaped_int]; rfl), any_ints]
  simp
theorem nin_tI (i : Int) (xs : List Int) : ninD (.int i) (tI xs) = some (.bool (!xs.any fun x => decide (x = i))) := by
  show (if (SeqAt.shaped (.int i) && SeqAt.shaped (.list (xs.map PyData.int))) = true then some (PyData.bool (false == (xs.map PyData.int).any fun z => PyData.eqv z (.int i))) else none) = _
  rw [if_pos (by rw [shaped_ints, shaped_int]; rfl), any_ints]
  simp
theorem in_lI (i : Int) (xs : List Int) : inD (.int i) (lI xs) = some (.bool (xs.any fun x => decide (x = i))) := in_tI i xs
theorem nin_lI (i : Int) (xs : List Int) : ninD (.int i) (lI xs) = some (.bool (!xs.any fun x => decide (x = i))) := nin_tI i xs
theorem ixT {xs : List D} {k : Nat} {x : D} (h : xs[k]? = some x) : idxD (.tuple xs) (.int (k : Nat)) = some x := atI_nat h
theorem ixL {xs : List D} {k : Nat} {x : D} (h : xs[k]? = some x) : idxD (.list xs) (.int (k : Nat)) = some x := atI_nat h
theorem sumD_ints (ns : List Int) : sumD [.list (ns.map PyData.int)] = some (.int ns.sum) := by
  show (intsD (ns.map PyData.int)).map (fun ns => PyData.int ns.sum) = _
  rw [intsD_map]; rfl
/-- a comprehension over data, without a condition -/
theorem wp_compA1 {vs : List Nat} {t : D → Env' → Option Env'} {f : M D} {Z : List D → Env' → Prop} (xs : List D) {e : Env'} (g : D → D) (hs : ∀ x ∈ xs, ∃ e1, t x e = some e1 ∧ Wp (f e1) (fun d e3 => d = g x ∧ forgetL vs e3 = e))
    (hq : Z (xs.map g) e) : Wp (compE vs t mYes f xs [] e) Z := by
  have := wp_compA (fun x : D => x) (vs := vs) (t := t) (f := f) (Z := Z) xs g hs hq
  rw [List.map_id'] at this
  exact this
theorem zipD_map {α β : Type} (φ : α → D) (ψ : β → D) : ∀ (as : List α) (bs : List β), zipD (as.map φ) (bs.map ψ) = (as.zip bs).map fun p => .tuple [φ p.1, ψ p.2]
  | [], _ => by cases ‹List β› <;> rfl
  | _ :: _, [] => rfl
  | a :: as, b :: bs => by
    show PyData.tuple [φ a, ψ b] :: zipD (as.map φ) (bs.map ψ) = _
    rw [zipD_map φ ψ as bs]; rfl
theorem enum_get {ds : List D} {i : Nat} {d : D} (h : (enumD ds)[i]? = some d) : ∃ x, ds[i]? = some x ∧ d = .tuple [.int (i : Nat), x] := by
  unfold enumD at h
  rw [List.getElem?_map] at h
  obtain ⟨j, hj, rfl⟩ := Option.map_eq_some_iff.mp h
  rw [List.getElem?_range (by
    by_cases z : i < ds.length
    · exact z
    · rw [List.getElem?_eq_none (by rw [List.length_range]; omega)] at hj; cases hj)] at hj
  cases hj
  have hi : i < ds.length := by
    by_cases z : i < ds.length
    · exact z
    · rw [List.getElem?_eq_none (by rw [List.length_range]; omega)] at h; cases h
  exact ⟨ds[i], List.getElem?_eq_getElem hi, by rw [List.getD_eq_getElem?_getD, List.getElem?_eq_getElem hi]; rfl⟩
theorem enum_map {α : Type} (φ : α → D) (z : α) (xs : List α) : enumD (xs.map φ) = (List.range xs.length).map fun i => PyData.tuple [.int (i : Nat), φ (xs.getD i z)] := by
  unfold enumD
  rw [List.length_map]
  refine List.map_congr_left fun i hi => ?_
  have := List.mem_range.mp hi
  simp [List.getD_eq_getElem?_getD, this]
end Lp

namespace Lp
open PySem PySem.Spec L2
/-! ### webs -/
def b1__law_web : M Ctl := mAsg 4 (mOp addD (mVar 4) (mFz (mComp [6] (mItO rg2 (mCons (mOp addD (mVar 5) (mC (.int 1))) (mCons (mVar 3) mNil))) (gtN 6) mYes (mTup (mCons (mVar 5) (mCons (mVar 6) mNil))))))
def m__law_web : M Ctl := mSeq (mAsg 3 (mOp addD (mC (.int 1)) (mFz (mCallIO 0 g__law_any (mCons (mVar 1) mNil))))) (mSeq (mAsg 4 (mFz (mLst mNil))) (mSeq (mFor (mItO rg1 (mCons (mVar 3) mNil)) (gtN 5) b1__law_web []) (mRet (mTup (mCons (mVar 3) (mCons (mB tupleD (mCons (mFz (mBO sortF (mCons (mFz (mSlice (mFz (mCallIO 0 g__law_mixed (mCons (mVar 4) mNil))) mNoP (mPart (mFz (mCallIO 0 g__law_any (mCons (mOp addD (mB min2D (mCons (mVar 2) (mCons (mB lenD (mCons (mVar 4) mNil)) mNil))) (mC (.int 1))) mNil)))))) mNil))) mNil)) mNil))))))
def g__law_web : Env' → Out Sl := gOf 7 3 m__law_web
/-- a web: places, ties -/
def webD (n : Nat) (ps : List (Nat × Nat)) : D := .tuple [.int (n : Nat), .tuple (ps.map fun p => tI [(p.1 : Int), (p.2 : Int)])]
def pairI (p : Nat × Nat) : List Int := [(p.1 : Int), (p.2 : Int)]
/-- all pairs of places -/
def webAll (n k : Nat) : List (Nat × Nat) := (List.range k).flatMap fun a => (List.range (n - (a + 1))).map fun j => (a, a + 1 + j)
theorem webAll_succ (n k : Nat) : webAll n (k + 1) = webAll n k ++ (List.range (n - (k + 1))).map fun j => (k, k + 1 + j) := by
  unfold webAll
  rw [List.range_succ, List.flatMap_append]
  simp
theorem mem_webAll {n k : Nat} {p : Nat × Nat} (h : p ∈ webAll n k) : p.1 < k ∧ p.1 < p.2 ∧ p.2 < n := by
  unfold webAll at h
  obtain ⟨a, ha, h⟩ := List.mem_flatMap.mp h
  obtain ⟨j, hj, rfl⟩ := List.mem_map.mp h
  have := List.mem_range.mp ha
  have := List.mem_range.mp hj
  simp only
  omega
theorem nodup_webAll (n : Nat) : ∀ k, (webAll n k).Nodup
  | 0 => by simp [webAll]
  | k + 1 => by
    rw [webAll_succ]
    refine List.nodup_append.mpr ⟨nodup_webAll n k, ?_, fun a ha b hb e => ?_⟩
    · unfold List.Nodup
      rw [List.pairwise_map]
      exact List.nodup_range.imp fun h e => h (by simpa using e)
    · subst e
      have h1 := mem_webAll ha
      obtain ⟨j, hj, rfl⟩ := List.mem_map.mp hb
      simp only at h1
      omega
theorem len_webAll (n : Nat) : ∀ k, (webAll n k).length ≤ k * n
  | 0 => by simp [webAll]
  | k + 1 => by
    rw [webAll_succ, List.length_append, List.length_map, List.length_range, Nat.succ_mul]
    have := len_webAll n k
    omega
theorem web_spec {c : List Int} {b most ties : Int} (hd : DealOk c b) (h1 : 1 ≤ most) (h2 : most ≤ 100) (h3 : 0 ≤ ties) (h4 : ties ≤ 1000) : Wp (g__law_web [.deal c b, .dat (.int most), .dat (.int ties)]) fun r e =>
    ∃ (n : Nat) (ps : List (Nat × Nat)) (c' : List Int) (b' : Int), r = .dat (webD n ps) ∧ 1 ≤ n ∧ (n : Int) ≤ most ∧ (ps.length : Int) ≤ ties ∧ (∀ p ∈ ps, p.1 < p.2 ∧ p.2 < n) ∧ ps.Nodup ∧ e.getD 0 .un = .deal c' b' ∧ DealOk c' b' := by
  refine (wp_gOf (by rfl)).mpr ?_
  unfold m__law_web
  refine i_seq (i_asg (i_op (i_c (i_fz (wp_any (i := 0) (k := most) (by rfl) hd (i_var (by rfl) ⟨rfl, rfl⟩) (by omega) (by omega) fun a c b h5 h6 hd => ⟨_, rfl, i_ofO addD_int ?_⟩)))))
  obtain ⟨n, hn⟩ : ∃ n : Nat, 1 + a = (n : Int) := ⟨(1 + a).toNat, by omega⟩
  rw [hn]
  refine i_seq (i_asg (i_fz (i_lst (i_nil ⟨by simp, ⟨_, rfl, ?_⟩⟩))))
  have hr : rg1 [.int (n : Int)] = some (rng 0 n) := rg1_int (inR_of (by omega) (by omega))
  refine i_seq (i_for (i_itO (i_cons (i_var (d := .int (n : Int)) (by rfl) (i_nil ⟨_, hr, ?_⟩)))))
  refine wp_forN (fun k e => ∃ x y, e = [.deal c b, .dat (.int most), .dat (.int ties), .dat (.int (n : Int)), .dat (.list (((webAll n k).map pairI).map tI)), x, y]) ⟨.un, .un, rfl⟩ (fun k x e hx hi => ?_) fun e hi => ?_
  · obtain ⟨x5, x6, rfl⟩ := hi
    obtain ⟨hk, rfl⟩ := rng_get hx
    refine ⟨_, rfl, ?_⟩
    unfold b1__law_web
    have hr2 : rg2 [.int (0 + (k : Nat) + 1), .int (n : Int)] = some (rng (0 + (k : Nat) + 1) ((n : Int) - (0 + (k : Nat) + 1)).toNat) := rg2_int (inR_of (by omega) (by omega)) (inR_of (by omega) (by omega))
    refine i_asg (i_op (i_var (d := .list (((webAll n k).map pairI).map tI)) (by rfl) (i_fz (i_comp (i_itO (i_cons (i_op (i_var (d := .int (0 + (k : Nat))) (by rfl) (i_c (i_ofO addD_int (i_cons (i_var (d := .int (n : Int)) (by rfl) (i_nil ⟨_, hr2, by rw [rng_len]; omega, ?_⟩)))))))))))))
    refine wp_compA (fun j : Nat => PyData.int (0 + (k : Nat) + 1 + (j : Nat))) (List.range ((n : Int) - (0 + (k : Nat) + 1)).toNat) (fun j => tI (pairI (k, k + 1 + j))) (fun j hj => ⟨_, rfl, ?_⟩) ?_
    · refine i_tup (i_cons (i_var (d := .int (0 + (k : Nat))) (by rfl) (i_cons (i_var (d := .int (0 + (k : Nat) + 1 + (j : Nat))) (by rfl) (i_nil ⟨by simp, ?_, ?_⟩)))))
      · have e1 : (0 + (k : Int)) = ((k : Nat) : Int) := by omega
        have e2 : (0 + (k : Int) + 1 + (j : Int)) = ((k + 1 + j : Nat) : Int) := by omega
        rw [e1]; rw [e1] at e2; rw [e2]; rfl
      · rfl
    refine ⟨_, rfl, ?_⟩
    have e3 : (List.range ((n : Int) - (0 + (k : Nat) + 1)).toNat).map (fun j => tI (pairI (k, k + 1 + j))) = (((List.range (n - (k + 1))).map fun j => (k, k + 1 + j)).map pairI).map tI := by
      have : ((n : Int) - (0 + (k : Nat) + 1)).toNat = n - (k + 1) := by omega
      rw [this, List.map_map, List.map_map]; rfl
    rw [e3]
    have hlen := len_webAll n (k + 1)
    have hb : (k + 1) * n ≤ 100 * 100 := Nat.mul_le_mul (by omega) (by omega)
    rw [webAll_succ, List.length_append] at hlen
    refine i_ofO (d := .list (((webAll n (k + 1)).map pairI).map tI)) ?_ ?_
    · rw [webAll_succ, List.map_append, List.map_append]
      exact catL_ok (by simp only [List.length_map] at *; omega)
    · cases x6 <;> exact ⟨rfl, _, _, rfl⟩
  · obtain ⟨x5, x6, rfl⟩ := hi
    rw [rng_len]
    have hlen := len_webAll n n
    have hb : n * n ≤ 100 * 100 := Nat.mul_le_mul (by omega) (by omega)
    have hlw : lenD [.list (((webAll n n).map pairI).map tI)] = some (.int ((webAll n n).length : Nat)) := by
      show some (PyData.int ((((webAll n n).map pairI).map tI).length : Nat)) = _
      rw [List.length_map, List.length_map]
    refine i_ret (i_tup (i_cons (i_var (d := .int (n : Int)) (by rfl) (i_cons (i_b (i_cons (i_fz (i_bO (i_cons (i_fz (i_sliceL (i_fz (i_callIO (c := c) (b := b) (by rfl) (i_cons (i_var (d := .list (((webAll n n).map pairI).map tI)) (by rfl) (i_nil ⟨c, b, rfl, ?_⟩))))))))))))))))
    refine (mixed_spec (w := 2 * 302) (k := 1) hd (fun x hx => ?_) (by decide) (by simp only [List.length_map]; omega)).mono fun r e h => ?_
    · obtain ⟨q, hq, rfl⟩ := List.mem_map.mp hx
      obtain ⟨p, hp, rfl⟩ := List.mem_map.mp hq
      have := mem_webAll hp
      exact tame_tuple (w := 301) (k := 0) (fun y hy => by
        obtain ⟨z, hz, rfl⟩ := List.mem_map.mp hy
        unfold pairI at hz
        refine tame_int ?_
        rcases List.mem_cons.mp hz with rfl | hz
        · omega
        · rw [List.mem_singleton.mp hz]; omega) (by simp [pairI])
    obtain ⟨es, c2, b2, rfl, hp, he, hd2⟩ := h
    rw [he]
    refine ⟨_, rfl, es, rfl, i_noP (i_part (i_fz (wp_any (i := 0) (k := min ties ((webAll n n).length : Nat) + 1) (by rfl) hd2 ?_ (by omega) (by omega) fun m c b h7 h8 hd => ⟨_, rfl, m, rfl, ?_⟩)))⟩
    · refine i_op (i_b (i_cons (i_var (d := .int ties) (by rfl) (i_cons (i_b (i_cons (i_var (d := .list (((webAll n n).map pairI).map tI)) (by rfl) (i_nil (i_ofO hlw (i_nil (i_ofO min2_int (i_c (i_ofO addD_int ⟨rfl, rfl⟩)))))))))))))
    rw [cutL_take h7]
    obtain ⟨qs, hq, hq2⟩ : ∃ qs : List (Nat × Nat), qs.Perm (webAll n n) ∧ es = (qs.map pairI).map tI := by
      have : es.Perm ((webAll n n).map fun p => tI (pairI p)) := by rw [List.map_map] at hp; exact hp
      obtain ⟨qs, h1, h2⟩ := perm_map_inv this
      exact ⟨qs, h1, by rw [h2, List.map_map]; rfl⟩
    subst hq2
    refine ⟨_, rfl, ?_⟩
    rw [← List.map_take, ← List.map_take]
    refine i_nil ⟨_, sort_tI (fun x hx => ?_) ?_, ?_⟩
    · obtain ⟨p, _, rfl⟩ := List.mem_map.mp hx
      simp [pairI]
    · have := hq.length_eq
      simp only [List.length_map, List.length_take]; omega
    refine ⟨_, rfl, i_nil (i_ofO rfl (i_nil ⟨by simp, ?_⟩))⟩
    obtain ⟨ps, hps, hps2⟩ := perm_map_inv (sortI_perm ((qs.take m.toNat).map pairI))
    rw [hps2]
    refine ⟨n, ps, c, b, ?_, by omega, by omega, ?_, ?_, ?_, rfl, hd⟩
    · unfold webD; rw [List.map_map]; rfl
    · rw [hps.length_eq, List.length_take]; omega
    · intro p hp
      have := mem_webAll (hq.mem_iff.mp (List.mem_of_mem_take (hps.mem_iff.mp hp)))
      omega
    · exact hps.nodup_iff.mpr ((hq.nodup_iff.mpr (nodup_webAll n n)).sublist (List.take_sublist _ _))
end Lp

namespace Lp
open PySem PySem.Spec L2
/-! ### two told alike -/
theorem t_repr {f g : M D} {e : Env'} {d : D} {s : Str} {U : Bool → Env' → Prop} (hr : reprD [d] = some (.str s)) (hf : Wp (f e) fun x e' => x = d ∧ e' = e) (hg : Wp (g e) fun x e' => x = d ∧ e' = e) (q : U false e) : Wp (mTst (mOp neX (mB reprD (mCons f mNil)) (mB reprD (mCons g mNil))) e) U := by
  refine i_tst (i_op (i_b (i_cons (hf.mono fun x e1 h => ?_))))
  obtain ⟨rfl, rfl⟩ := h
  refine i_nil (i_ofO hr (i_b (i_cons (hg.mono fun x e2 h => ?_))))
  obtain ⟨rfl, rfl⟩ := h
  refine i_nil (i_ofO hr (i_ofO neX_str ⟨_, rfl, ?_⟩))
  have : (!decide (s = s)) = false := by simp
  rw [this]
  exact q
theorem reprB (b : Bool) : ∃ s, reprD [.bool b] = some (.str s) := ⟨_, reprD_bool⟩
theorem t_reprB {f g : M D} {e : Env'} {b : Bool} {U : Bool → Env' → Prop} (hf : Wp (f e) fun x e' => x = .bool b ∧ e' = e) (hg : Wp (g e) fun x e' => x = .bool b ∧ e' = e) (q : U false e) : Wp (mTst (mOp neX (mB reprD (mCons f mNil)) (mB reprD (mCons g mNil))) e) U := t_repr reprD_bool hf hg q
theorem tame_ints {xs : List Int} {n : Nat} (h : ∀ x ∈ xs, x.natAbs < 2 ^ 300) (hl : xs.length ≤ n) : Tame (n * 302) 1 (tI xs) := tame_tuple (w := 301) (k := 0) (fun y hy => by
  obtain ⟨z, hz, rfl⟩ := List.mem_map.mp hy
  exact tame_int (h z hz)) (by rw [List.length_map]; exact hl)
theorem tame_intsL {xs : List Int} {n : Nat} (h : ∀ x ∈ xs, x.natAbs < 2 ^ 300) (hl : xs.length ≤ n) : Tame (n * 302) 1 (lI xs) := tame_list (w := 301) (k := 0) (fun y hy => by
  obtain ⟨z, hz, rfl⟩ := List.mem_map.mp hy
  exact tame_int (h z hz)) (by rw [List.length_map]; exact hl)
/-- what a call answers, as a part -/
theorem p_call {g : Env' → Out Sl} {fa : M (List D)} {e : Env'} {d : D} {ds : List D} (ha : Wp (fa e) fun xs e' => xs = ds ∧ e' = e) (h : Wp (g (ds.map .dat)) fun r _ => slD r = some d) : Wp (mFz (mCall g fa) e) fun x e' => x = d ∧ e' = e := by
  refine i_fz (i_call (ha.mono fun xs e' h' => ?_))
  obtain ⟨rfl, rfl⟩ := h'
  exact h.mono fun r e2 h => ⟨d, h, rfl, rfl⟩
theorem sum_nonneg : ∀ {ls : List Int}, (∀ x ∈ ls, 0 ≤ x) → 0 ≤ ls.sum
  | [], _ => by simp
  | x :: ls, h => by
    have a := h x (List.mem_cons_self ..)
    have b := sum_nonneg fun y hy => h y (List.mem_cons_of_mem _ hy)
    rw [List.sum_cons]; omega
theorem sum_le_mul : ∀ {ls : List Int} {B : Int}, (∀ x ∈ ls, x ≤ B) → ls.sum ≤ ls.length * B
  | [], _, _ => by simp
  | x :: ls, B, h => by
    have a := h x (List.mem_cons_self ..)
    have b := sum_le_mul fun y hy => h y (List.mem_cons_of_mem _ hy)
    rw [List.sum_cons, List.length_cons]
    have : ((ls.length + 1 : Nat) : Int) * B = ls.length * B + B := by rw [Int.natCast_add, Int.add_mul]; simp
    omega
end Lp

namespace Lp
open PySem PySem.Spec L2 PyProof.Rows
set_option autoImplicit false
/-! ### dicts whose keys are tuples of ints: what the model does -/
def valX (L : List DRow) (k : List Int) : Option V := (L.find? fun p => decide (p.1 = k)).map (·.2.2)
def putX (L : List DRow) (k : List Int) (b : Addr) (v : V) : List DRow := if (valX L k).isSome = true then L.map (fun p => if p.1 = k then (p.1, p.2.1, v) else p) else L ++ [(k, b, v)]
abbrev PX : List DRow → List (List Int × Addr × Value) → Prop := Paired fun p q => p.1 = q.1 ∧ p.2.1 = q.2.1 ∧ RelV p.2.2 q.2.2
theorem PX.val {L : List DRow} {xs : List (List Int × Addr × Value)} (r : PX L xs) (k : List Int) : RelO (valX L k) ((atKey xs k).map (·.2)) := by
  induction r with
  | nil => exact True.intro
  | @cons p q ps qs h t ih =>
    obtain ⟨h1, _, h2⟩ := h
    by_cases e : p.1 = k
    · have e' : q.1 = k := h1.symm.trans e
      have a : valX (p :: ps) k = some p.2.2 := by simp [valX, List.find?_cons, e]
      have b : atKey (q :: qs) k = some q.2 := by simp [atKey, List.find?_cons, e']
      rw [a, b]; exact h2
    · have e' : ¬ q.1 = k := fun z => e (h1.trans z)
      have a : valX (p :: ps) k = valX ps k := by simp [valX, List.find?_cons, e]
      have b : atKey (q :: qs) k = atKey qs k := by simp [atKey, List.find?_cons, e']
      rw [a, b]; exact ih
theorem PX.repl {L : List DRow} {xs : List (List Int × Addr × Value)} (r : PX L xs) (k : List Int) {y : V} {u : Value} (ry : RelV y u) : PX (L.map fun p => if p.1 = k then (p.1, p.2.1, y) else p) (xs.map (putAt k u)) := by
  induction r with
  | nil => exact .nil
  | @cons p q ps qs h t ih =>
    rw [List.map_cons, List.map_cons]
    refine .cons ?_ ih
    obtain ⟨h1, h2, h3⟩ := h
    unfold putAt
    by_cases e : p.1 = k
    · rw [if_pos e, if_pos (h1.symm.trans e)]; exact ⟨h1, h2, ry⟩
    · rw [if_neg e, if_neg (fun z => e (h1.trans z))]; exact ⟨h1, h2, h3⟩
theorem PX.put {L : List DRow} {xs : List (List Int × Addr × Value)} (r : PX L xs) (k : List Int) (b : Addr) {y : V} {u : Value} (ry : RelV y u) : PX (putX L k b y) (storedH xs k b u) := by
  have e : (valX L k).isSome = (atKey xs k).isSome := by rw [(r.val k).isSome_eq, Option.isSome_map]
  unfold putX storedH
  rw [e]
  by_cases q : (atKey xs k).isSome = true
  · rw [if_pos q, if_pos q]; exact r.repl k ry
  · rw [if_neg q, if_neg q]; exact Paired.snoc r ⟨rfl, rfl, ry⟩
theorem PX.keys {L : List DRow} {xs : List (List Int × Addr × Value)} (r : PX L xs) : L.map (·.1) = xs.map (·.1) := by
  induction r with
  | nil => rfl
  | cons h t ih => rw [List.map_cons, List.map_cons, ih, h.1]
theorem PX.back {L : List DRow} {xs : List (List Int × Addr × Value)} (r : PX L xs) : ∀ x ∈ xs, ∃ p ∈ L, p.1 = x.1 ∧ p.2.1 = x.2.1 := by
  induction r with
  | nil => intro x hx; cases hx
  | @cons p q ps qs h t ih =>
    intro x hx
    rcases List.mem_cons.mp hx with rfl | hx
    · exact ⟨p, List.mem_cons_self .., h.1, h.2.1⟩
    · obtain ⟨y, hy, z⟩ := ih x hx
      exact ⟨y, List.mem_cons_of_mem _ hy, z⟩
theorem dicO_ok {P : Program} {w : World} {H : Hp} {h : Heap} {a : Addr} {L : List DRow} (x : Dic0 h a L) : ObjOk P w H h a (DicO a L) := by
  refine ⟨x, ?_, fun h1 h2 y k => ?_⟩
  · obtain ⟨_, _, _, _, _, o, _, _, e, _⟩ := x
    exact ⟨o, e⟩
  · obtain ⟨z, hd, nd, xs, pr, o, es, ep, e1, e2⟩ := y
    exact ⟨z, hd, nd, xs, pr, o, es, ep, k o e1, e2⟩
section
variable {X : Cx} {pins : List (Addr × Obj)} {σ : L2.St} {H : Hp} {s : Shared} {a b : Addr} {L : List DRow} {k : List Int}
theorem dic_rd (I : Inv X pins σ H s) (e : H a = some (DicO a L)) (t : ∀ q ∈ L, SqT X.K H q.2.1 (q.1.map V.int)) : L.length ≤ sizeLine ∧ (a == sysModules) = false ∧
    ∃ xs, PX L xs ∧ s.heap.DictOfH (tupleKind (intKind X.prog X.w)) a xs := by
  obtain ⟨⟨z, hd, nd, xs, pr, o, es, ep, h1, h2, h3, h4⟩, _, _⟩ := (show ObjOk X.prog X.w H s.heap a (DicO a L) from I.hok a _ e)
  refine ⟨z, hd, xs, pr, o, es, ep, h1, h2, h3, h4, fun x hx => ?_, by rw [← PX.keys pr]; exact nd⟩
  obtain ⟨p, hp, e1, e2⟩ := PX.back pr x hx
  have := I.isT (t p hp)
  rw [e1, e2] at this
  exact this
theorem dic_of {h : Heap} {xs : List (List Int × Addr × Value)} {P : Program} {w : World} (z : L.length ≤ sizeLine) (hd : (a == sysModules) = false) (pr : PX L xs) (m : h.DictOfH (tupleKind (intKind P w)) a xs) : Dic0 h a L := by
  obtain ⟨o, es, ep, h1, h2, h3, h4, _, h5⟩ := m
  exact ⟨z, hd, by rw [PX.keys pr]; exact h5, xs, pr, o, es, ep, h1, h2, h3, h4⟩
/-- the dict at a, its keys, a key -/
structure DAt (K : PySem.W.Frag) (H : Hp) (a : Addr) (L : List DRow) (y : V) (k : List Int) : Prop where
  d : H a = some (DicO a L)
  t : ∀ q ∈ L, SqT K H q.2.1 (q.1.map V.int)
  y : ∃ b, y = .ref b ∧ SqT K H b (k.map V.int)
def rXIn (K : PySem.W.Frag) (c : Bool) : R2 := fun y x H Q => ∃ a L k, x = .ref a ∧ DAt K H a L y k ∧ Q (.bl (c == (valX L k).isSome)) H
theorem op_xin (hu : X.A.units + 1 < cLine) : OpR X (compareOp .In) (rXIn X.K true) := by
  intro pins s σ H y x v u Q I ry rx h
  obtain ⟨a, L, k, rfl, ⟨e, t, b, rfl, hb⟩, q⟩ := h
  cases rx
  cases ry
  obtain ⟨_, hd, xs, pr, dd⟩ := dic_rd I e t
  refine wpAny_in_heap (tupleKind_room_in1 hu) (I.isT hb) hd dd ?_
  have q2 := (PX.val pr k).isSome_eq
  rw [Option.isSome_map] at q2
  rw [← q2]
  exact ⟨.bl _, H, I.tok _, rfl, by simpa using q⟩
theorem op_xnin (hu : X.A.units + 1 < cLine) : OpR X (compareOp .NotIn) (rXIn X.K false) := by
  intro pins s σ H y x v u Q I ry rx h
  obtain ⟨a, L, k, rfl, ⟨e, t, b, rfl, hb⟩, q⟩ := h
  cases rx
  cases ry
  obtain ⟨_, hd, xs, pr, dd⟩ := dic_rd I e t
  refine wpAny_notIn_heap (tupleKind_room_in1 hu) (I.isT hb) hd dd ?_
  have q2 := (PX.val pr k).isSome_eq
  rw [Option.isSome_map] at q2
  rw [← q2]
  exact ⟨.bl _, H, I.tok _, rfl, by simpa using q⟩
/-- a key of an int dict -/
def rKIn (c : Bool) : R2 := fun y x H Q => ∃ a kvs i, x = .ref a ∧ H a = some (.dK kvs) ∧ y = .int i ∧ Q (.bl (c == (valV kvs (Sum.inl i : Key)).isSome)) H
theorem op_kin (hu : X.A.units + 1 < cLine) : OpR X (compareOp .In) (rKIn true) := by
  intro pins s σ H y x v u Q I ry rx h
  obtain ⟨a, kvs, i, rfl, e, rfl, q⟩ := h
  cases rx
  exact d_in hu I (DGet.k (k := .inl i) e) ry fun s' I' => ⟨.bl _, H, I', rfl, by simpa using q⟩
theorem op_knin (hu : X.A.units + 1 < cLine) : OpR X (compareOp .NotIn) (rKIn false) := by
  intro pins s σ H y x v u Q I ry rx h
  obtain ⟨a, kvs, i, rfl, e, rfl, q⟩ := h
  cases rx
  exact d_notIn hu I (DGet.k (k := .inl i) e) ry fun s' I' => ⟨.bl _, H, I', rfl, by simpa using q⟩
/-- a[k] -/
def rXIx (K : PySem.W.Frag) : R2 := fun x y H Q => ∃ a L k v, x = .ref a ∧ DAt K H a L y k ∧ valX L k = some v ∧ Q v H
theorem ix_x (hu : X.A.units + 1 < cLine) : IxR X (rXIx X.K) := by
  intro value slice pins s σ H x y v u Q I rx ry h hs
  obtain ⟨a, L, k, v', rfl, ⟨e, t, b, rfl, hb⟩, hv, q⟩ := h
  cases rx
  cases ry
  obtain ⟨_, hd, xs, pr, dd⟩ := dic_rd I e t
  obtain ⟨w', hw, rw'⟩ := RelO.some_of (v := v') (o := (atKey xs k).map (·.2)) (by rw [← hv]; exact (PX.val pr k))
  obtain ⟨p, hp, hp2⟩ := Option.map_eq_some_iff.mp hw
  exact subscriptTail_builtinR (x := p.2) dd.typeIs PySem.F.slot_dict_getitem.lookup (wpAny_getItem_heap (Q := fun r s' => r = p.2 ∧ EP X pins σ Q r s') (tupleKind_room_in1 hu) (I.isT hb) dd hp ⟨rfl, by rw [hp2]; exact ⟨v', H, I.tok _, rw', q⟩⟩) hs
def rKIx : R2 := fun x y H Q => ∃ a kvs i v, x = .ref a ∧ H a = some (.dK kvs) ∧ y = .int i ∧ valV kvs (Sum.inl i : Key) = some v ∧ Q v H
theorem ix_k (hu : X.A.units + 1 < cLine) : IxR X rKIx := by
  intro value slice pins s σ H x y v u Q I rx ry h hs
  obtain ⟨a, kvs, i, v', rfl, e, rfl, hv, q⟩ := h
  cases rx
  obtain ⟨z, hd, vs, rel, dd⟩ := dk_of I.hok e
  obtain ⟨w', hw, rw'⟩ := RelO.some_of (v := v') (o := valueAt vs (Sum.inl i : Key)) (by rw [← hv]; exact rel.val _)
  exact subscriptTail_builtinR (x := w') dd.typeIs PySem.F.slot_dict_getitem.lookup (wpAny_getItem_of (Q := fun r s' => r = w' ∧ EP X pins σ Q r s') (kV_is (k := .inl i) ry) dd.mapOf hw ⟨rfl, v', H, I.tok _, rw', q⟩) hs
/-- a[k] = v -/
def rXSet (K : PySem.W.Frag) : TSet := fun o i v H Q => ∃ a L k b, o = .ref a ∧ i = .ref b ∧ H a = some (DicO a L) ∧ (∀ q ∈ L, SqT K H q.2.1 (q.1.map V.int)) ∧ SqT K H b (k.map V.int) ∧ L.length < sizeLine ∧ Q (upd H a (DicO a (putX L k b v)))
theorem set_x (hu : X.A.units + 1 < cLine) : PSet X (rXSet X.K) := by
  intro pins s σ H o i v ov iv u Q I ro ri rv h
  obtain ⟨a, L, k, b, rfl, rfl, e, t, hb, l, q⟩ := h
  cases ro
  cases ri
  obtain ⟨z, hd, xs, pr, dd⟩ := dic_rd I e t
  have hz : xs.length ≤ sizeLine := by rw [← Paired.length pr]; exact z
  have hl : (putX L k b v).length ≤ sizeLine := by
    unfold putX
    split
    · rw [List.length_map]; exact z
    · rw [List.length_append]; show L.length + 1 ≤ sizeLine; omega
  refine wpAny_setItem_heap (hsz := hz) (tupleKind_room_in1 hu) (I.isT hb) dd fun h' dd' hs => ?_
  have he : ∃ q, h'.get? a = some q := let ⟨q, _, _, hq, _⟩ := dd'; ⟨q, hq⟩
  exact ⟨_, d_write I (by rw [e]; exact True.intro) hs he (dicO_ok (dic_of hl hd (PX.put pr k b rv) dd')), q⟩
def rKSet : TSet := fun o i v H Q => ∃ a kvs j, o = .ref a ∧ i = .int j ∧ H a = some (.dK kvs) ∧ kvs.length < sizeLine ∧ Q (upd H a (.dK (putK kvs (Sum.inl j : Key) v)))
theorem set_k (hu : X.A.units + 1 < cLine) : PSet X rKSet := by
  intro pins s σ H o i v ov iv u Q I ro ri rv h
  obtain ⟨a, kvs, j, rfl, rfl, e, l, q⟩ := h
  cases ro
  exact d_setItem hu I (DPut.k (k := .inl j) e l) ri rv fun s' I' => ⟨_, I', q⟩
theorem PSet.or {r r' : TSet} (h : PSet X r) (h' : PSet X r') : PSet X (fun o i v H Q => r o i v H Q ∨ r' o i v H Q) := by
  intro pins s σ H o i v ov iv u Q I ro ri rv q
  rcases q with q | q
  · exact h pins s σ H o i v ov iv u Q I ro ri rv q
  · exact h' pins s σ H o i v ov iv u Q I ro ri rv q
/-- {} -/
def tDNewX : TE := fun _ H Q => ∀ p, H p = none → Q (.ref p) (upd H p (DicO p []))
theorem pe_dnewX {pos : Pos} : PE X (.Dict [] [] pos) tDNewX := ⟨fun pins s σ H Q I h =>
  wpAny_Dict_empty ⟨.ref s.heap.objs.size, _, I.laid (a := s.heap.objs.size) (o := DicO s.heap.objs.size []) (t' := s.toks) (fun _ _ q => Heap.get?_push_of_some _ q) (Nat.le_refl _)
    (dicO_ok ⟨Nat.zero_le _, beq_eq_false_iff_ne.mpr (Ne.symm (Nat.ne_of_lt I.big)), List.nodup_nil, [], .nil, _, #[], 0, Heap.get?_push_size _ rfl, ⟨rfl, rfl, rfl⟩, rfl, rfl⟩), rfl, h _ (I.hok.fresh (Nat.le_refl _))⟩⟩
/-! ### sorted(dict) -/
section
open PyProof.Rows PySem.W Calls
theorem sorted_src {prog : Program} {w : World} {A : Around} {E : Value → Shared → Prop} {s : Shared} {T : String} {r d : Addr} {n : Nat} {P : Nat → Value → Prop} {OK : Heap → Prop} {Q : Value → Shared → Prop}
    (K : KdlSrc prog w T r d n P OK) (hh : A.handled = none) (hok : OK s.heap) (hn : n ≤ sizeLine)
    (body : ∀ (h' : Heap) (tk : Nat) (acc : Array Value), (∀ b o, s.heap.get? b = some o → h'.get? b = some o) → ItemsOf P acc n →
      wpAny (model prog w) A.in1 (call (.builtin "list.sort") [.ref h'.objs.size]) (fun _ s' => Q (.ref h'.objs.size) s') E { s with heap := h'.push (seqObj "list" acc.toList.toArray 0), toks := tk }) :
    wpAny (model prog w) A (call (.builtin "sorted") [.ref r]) Q E s := by
  refine call_function_entry kind_sorted plain_sorted entry_sorted (args_sorted1 _) ?_
  unfold Builtin.«sorted»
  refine wpAny_bind (m := checkCount "sorted" 1 1 _) (wpAny_pure ?_)
  refine wpAny_bind (kdu_collect (A := A.in1) K hh hok hn fun h' tk acc hk hacc => ?_)
  have hl : acc.toList.length = n := by rw [Array.length_toList]; exact hacc.1
  refine wpAny_bind (wpAny_newList ?_ (by rw [hl]; exact hn))
  refine wpAny_bind (wpAny_holding (wpAny_mono (body h' tk acc hk hacc) (fun _ s' x => ?_) fun _ _ e => e))
  exact wpAny_pure ⟨_, rfl, x⟩
end
end
end Lp

namespace Lp
open PySem PySem.Spec L2 PyProof.Rows
set_option autoImplicit false
section
variable {ax : Ax} {X : Cx} {K : PySem.W.Frag} {W : Wd} {B B' H H' : Hp} {σ : L2.St} {env : Env'} {pos p p1 p2 p3 p4 p5 : Pos} {a b c e : Expr} {f h l : M D} {i : Nat} {io : List Nat} {x : Str} {v : V} {r : Sl} {L : List DRow}
/-! ### sorted(dict) -/
def keysD (L : List DRow) : List D := L.map fun p => tI p.1
def rSortX (K : PySem.W.Frag) : List V → Hp → VK → Prop := fun xs H Q => ∃ (a : Addr) (L : List DRow) (P : V → D → Prop), xs = [V.ref a] ∧ H a = some (DicO a L) ∧ (∀ q ∈ L, SqT K H q.2.1 (q.1.map V.int)) ∧ PySem.W.EachIs P (L.map fun p => V.ref p.2.1) (keysD L) ∧ sortOk (keysD L) = true ∧
  ∀ (vs' : List V) (p : Addr), (∀ q ∈ L, q.1.length ≤ sizeLine) → PySem.W.EachIs P vs' (sortedD (keysD L)) → H p = none → Q (.ref p) (upd H p (.lst vs'))
theorem dpAll_ints : ∀ k : List Int, DpAll K H (k.map V.int) (k.map PyData.int)
  | [] => .nil
  | _ :: k => .cons (.int _) (dpAll_ints k)
theorem dp_keys : ∀ {L : List DRow}, (∀ q ∈ L, SqT K H q.2.1 (q.1.map V.int)) → DpAll K H (L.map fun p => V.ref p.2.1) (keysD L)
  | [], _ => .nil
  | q :: L, t => .cons (.tup (t q (List.mem_cons_self ..)) (dpAll_ints q.1)) (dp_keys fun r hr => t r (List.mem_cons_of_mem _ hr))
theorem vals_keys : ∀ L : List DRow, Vals (L.map fun p => V.ref p.2.1) (L.map fun p => Value.ref p.2.1)
  | [] => .nil
  | _ :: L => .cons rfl (vals_keys L)
theorem PX.addrs {L : List DRow} {xs : List (List Int × Addr × Value)} (r : PX L xs) : (L.map fun p => Value.ref p.2.1) = xs.map fun x => Value.ref x.2.1 := by
  induction r with
  | nil => rfl
  | cons h _ ih => rw [List.map_cons, List.map_cons, ih, h.2.1]
open PySem.Calls in
theorem call_sortX (hc : X.calm = true) (hu : X.A.units + 66 < cLine) : CallR X (.builtin "sorted") (rSortX X.K) := by
  intro pins s σ H xs us Q I r h
  obtain ⟨a, L, P, rfl, e, t, hP, ok, q⟩ := h
  rw [Vals.ref1 r]
  have ok' := ok
  unfold sortOk at ok'
  simp only [Bool.and_eq_true, decide_eq_true_eq] at ok'
  obtain ⟨⟨⟨⟨o1, o2⟩, o3⟩, o4⟩, _⟩ := ok'
  obtain ⟨⟨z, hs, nd, ks, pr, o, es, ep, ho, hx, hdt, he⟩, _, _⟩ := (show ObjOk X.prog X.w H s.heap a (DicO a L) from I.hok a _ e)
  have l1 : es.size = ks.length := by rw [← Array.length_toList, he, List.length_map]
  have l2 : L.length = ks.length := Paired.length pr
  have hdep : ∀ d ∈ keysD L, d.depth ≤ PyData.depthAll (keysD L) := by
    have : ∀ (ds : List D) (d : D), d ∈ ds → d.depth ≤ PyData.depthAll ds := by
      intro ds
      induction ds with
      | nil => intro d h; cases h
      | cons x xs ih =>
        intro d h
        simp only [PyData.depthAll]
        rcases List.mem_cons.mp h with rfl | h
        · omega
        · have := ih d h; omega
    exact this _
  refine sorted_src (kdl_raw hs hx hdt) (I.ok.hd hc) ho (by omega) fun h' tk acc hk it => ?_
  have ea : acc.toList = L.map fun p => Value.ref p.2.1 := by
    have ek : (L.map fun p => Value.ref p.2.1) = ks.map fun x => Value.ref x.2.1 := PX.addrs pr
    rw [ek]
    have hl : acc.toList.length = ks.length := by rw [Array.length_toList, it.1]; exact l1
    apply List.ext_getElem?
    intro j
    rw [List.getElem?_map]
    cases hj : acc.toList[j]? with
    | none =>
      have h1 := List.getElem?_eq_none_iff.mp hj
      rw [List.getElem?_eq_none (by omega)]; rfl
    | some v =>
      obtain ⟨en, hen, hv⟩ := it.2 j v (by rw [← Array.getElem?_toList]; exact hj)
      rw [← Array.getElem?_toList, he, List.getElem?_map] at hen
      cases hb : ks[j]? with
      | none => rw [hb] at hen; cases hen
      | some b =>
        rw [hb] at hen
        cases hen
        rw [hv]; rfl
  have hlt : ∀ b u, s.heap.get? b = some u → (h'.push (seqObj "list" acc.toList.toArray 0)).get? b = some u := fun b u eb => Heap.get?_push_of_some _ (hk b u eb)
  have hol : (h'.push (seqObj "list" acc.toList.toArray 0)).get? h'.objs.size = some (seqObj "list" acc.toList.toArray 0) := Heap.get?_push_size _ rfl
  have er : PySem.W.EachIs (fun v d => ∃ as, Reads (PySem.W.sortingHeap (h'.push (seqObj "list" acc.toList.toArray 0)) h'.objs.size acc.toList) v (id d) as) acc.toList (keysD L) := by
    rw [ea]
    refine (each_reads I (dp_keys t) (vals_keys L)).mono fun _ _ ⟨as, rd⟩ => ⟨as, PyProof.Rows.Reads.keeps (fun b u eb => ?_) rd⟩
    exact PySem.W.sortingHeap_old (Nat.ne_of_lt (Heap.lt_size (hk b u eb))) (Heap.get?_push_of_some _ (hk b u eb))
  have hlen : acc.toList.length = (keysD L).length := by rw [ea]; simp [keysD]
  have hr : PySem.W.EachIs (fun u d => ∃ v, RelV v u ∧ P v d) acc.toList (keysD L) := by rw [ea]; exact each_rel hP (vals_keys L)
  refine wpAny_call_entry PyProof.Rows.slot_list_sort ⟨_, hol, rfl⟩ PyProof.Rows.entry_list_sort (PySem.W.list_sort_vals (κ := PySem.W.dataKind (PySem.W.sortingHeap (h'.push (seqObj "list" acc.toList.toArray 0)) h'.objs.size acc.toList) ((keysD L).map id)) hol
    (PySem.W.SortsAt.data (PySem.W.each_map (R := fun v d => ∃ as, Reads (PySem.W.sortingHeap (h'.push (seqObj "list" acc.toList.toArray 0)) h'.objs.size acc.toList) v d as) id er) (by rw [List.map_id]; exact (alikeB_all o1).1) (by rw [List.map_id]; exact sortOk_sortable ok) (PySem.W.bound_map fun b hb => ?_)) (by rw [hlen]; exact line_of o4) ⟨.none, rfl, ?_⟩) (PyProof.Rows.args_list_sort _)
  · have := hdep b hb
    show X.A.units + 1 + 1 + b.depth < cLine
    omega
  · have eo := PySem.W.sortVals_data (enc := id) false hr er (by rw [List.map_id]; exact (alikeB_all o1).1)
    obtain ⟨vs', v1, v2⟩ := each_back eo
    obtain ⟨ep', he'⟩ := PyProof.Rows.sortedHeap_at (vs := acc.toList) (out := (PySem.W.sortVals (PySem.W.dataKind (PySem.W.sortingHeap (h'.push (seqObj "list" acc.toList.toArray 0)) h'.objs.size acc.toList) ((keysD L).map id)) false acc.toList acc.toList).toArray) hol
    have I1 : L2.Inv X pins σ H { s with heap := h', toks := tk } := I.kept (t' := tk) hk
    refine ⟨.ref h'.objs.size, upd H h'.objs.size (.lst vs'), I1.laid (t' := tk) (fun b u eb => ?_) (Nat.le_refl _) ⟨?_, _, ep', v1, he'⟩, rfl, q vs' _ (fun r hr => by obtain ⟨_, _, _, hz⟩ := I.tuple (t r hr); rwa [List.length_map] at hz) v2 (I1.hok.fresh (Nat.le_refl _))⟩
    · have hb2 : (h'.push (seqObj "list" acc.toList.toArray 0)).get? b = some u := Heap.get?_push_of_some _ eb
      rw [PyProof.Rows.sortedHeap_old (Nat.ne_of_lt (Heap.lt_size eb)) (Heap.lt_size hb2)]
      exact hb2
    · have e1 := v1.length
      have e2 : (PySem.W.sortVals (PySem.W.dataKind (PySem.W.sortingHeap (h'.push (seqObj "list" acc.toList.toArray 0)) h'.objs.size acc.toList) ((keysD L).map id)) false acc.toList acc.toList).length = acc.toList.length := PySem.W.sortVals_length false rfl
      rw [e1, e2, hlen]
      exact line_of o4
end
end Lp

namespace Lp
open PySem PySem.Spec L2 PyProof.Rows
set_option autoImplicit false
/-! ### tables of data -/
section
variable {κ : Type} [DecidableEq κ]
def lookD (kvs : List (κ × D)) (k : κ) : Option D := (kvs.find? fun q => decide (q.1 = k)).map (·.2)
def putD (kvs : List (κ × D)) (k : κ) (d : D) : List (κ × D) := if (lookD kvs k).isSome = true then kvs.map (fun q => if q.1 = k then (q.1, d) else q) else kvs ++ [(k, d)]
theorem lookD_nil (k : κ) : lookD ([] : List (κ × D)) k = none := rfl
theorem lookD_cons (q : κ × D) (kvs : List (κ × D)) (k : κ) : lookD (q :: kvs) k = if q.1 = k then some q.2 else lookD kvs k := by
  unfold lookD
  rw [List.find?_cons]
  by_cases h : q.1 = k
  · simp [h]
  · simp [h]
theorem lookD_put (kvs : List (κ × D)) (k j : κ) (d : D) : lookD (putD kvs k d) j = if k = j then some d else lookD kvs j := by
  have g1 : ∀ kvs : List (κ × D), lookD (kvs.map fun q => if q.1 = k then (q.1, d) else q) j = if k = j then (lookD kvs j).map (fun _ => d) else lookD kvs j := by
    intro kvs
    induction kvs with
    | nil => by_cases h : k = j <;> simp [lookD, h]
    | cons q kvs ih =>
      rw [List.map_cons, lookD_cons, lookD_cons, ih]
      by_cases h : k = j
      · subst h
        by_cases e : q.1 = k <;> simp [e]
      · by_cases e : q.1 = k
        · have : ¬ q.1 = j := fun z => h (e.symm.trans z)
          simp [e, h]
        · simp [e, h]
  have g2 : ∀ kvs : List (κ × D), lookD (kvs ++ [(k, d)]) j = (lookD kvs j).or (if k = j then some d else none) := by
    intro kvs
    induction kvs with
    | nil => rw [List.nil_append, lookD_cons]; simp [lookD]
    | cons q kvs ih =>
      rw [List.cons_append, lookD_cons, lookD_cons, ih]
      by_cases e : q.1 = j <;> simp [e]
  unfold putD
  by_cases h : (lookD kvs k).isSome = true
  · rw [if_pos h, g1]
    by_cases e : k = j
    · subst e
      obtain ⟨x, hx⟩ := Option.isSome_iff_exists.mp h
      simp [hx]
    · simp [e]
  · rw [if_neg h, g2]
    by_cases e : k = j
    · subst e
      have : lookD kvs k = none := by simpa using h
      simp [this]
    · simp [e]
theorem putD_keys (kvs : List (κ × D)) (k : κ) (d : D) : (putD kvs k d).map (·.1) = if (lookD kvs k).isSome = true then kvs.map (·.1) else kvs.map (·.1) ++ [k] := by
  unfold putD
  split
  · rw [List.map_map]
    refine List.map_congr_left fun q _ => ?_
    simp only [Function.comp]
    split <;> rfl
  · rw [List.map_append]; rfl
theorem putD_len (kvs : List (κ × D)) (k : κ) (d : D) : (putD kvs k d).length ≤ kvs.length + 1 := by
  unfold putD
  split
  · rw [List.length_map]; omega
  · rw [List.length_append]; simp
theorem lookD_mem {kvs : List (κ × D)} {k : κ} {d : D} (h : lookD kvs k = some d) : (k, d) ∈ kvs := by
  unfold lookD at h
  obtain ⟨q, hq, rfl⟩ := Option.map_eq_some_iff.mp h
  have h1 := List.find?_some hq
  have h2 := List.mem_of_find?_eq_some hq
  simp only [decide_eq_true_eq] at h1
  rw [← h1]; exact h2
theorem lookD_isSome (kvs : List (κ × D)) (k : κ) : (lookD kvs k).isSome = decide (k ∈ kvs.map (·.1)) := by
  induction kvs with
  | nil => simp [lookD]
  | cons q kvs ih =>
    rw [lookD_cons, List.map_cons]
    by_cases h : q.1 = k
    · simp [h]
    · have h' : ¬ k = q.1 := fun z => h z.symm
      rw [if_neg h, ih]
      simp [h']
end
section
variable {ax : Ax} {X : Cx} {K : PySem.W.Frag} {W : Wd} {B B' H H' : Hp} {σ : L2.St} {env : Env'} {pos p p1 p2 p3 p4 p5 : Pos} {a b c e : Expr} {f h l : M D} {i : Nat} {io : List Nat} {x : Str} {v : V} {r : Sl} {L : List DRow}
/-! ### rows of the model, rows of data -/
theorem look_rp : ∀ {L : List DRow} {kvs : List (List Int × D)} {k : List Int} {d : D}, L.map (·.1) = kvs.map (·.1) → RpAll K B (L.map (·.2.2)) (kvs.map (·.2)) → lookD kvs k = some d → ∃ v, valX L k = some v ∧ Rp K B v d
  | [], [], k, d, _, _, h => by cases h
  | [], _ :: _, _, _, e, _, _ => by cases e
  | _ :: _, [], _, _, e, _, _ => by cases e
  | p :: L, q :: kvs, k, d, e, r, h => by
    rw [List.map_cons, List.map_cons, List.cons.injEq] at e
    rw [List.map_cons, List.map_cons] at r
    rw [lookD_cons] at h
    cases r with
    | cons r1 r2 =>
      by_cases z : q.1 = k
      · rw [if_pos z] at h
        cases h
        exact ⟨p.2.2, by simp [valX, List.find?_cons, e.1, z], r1⟩
      · rw [if_neg z] at h
        obtain ⟨v, h1, h2⟩ := look_rp e.2 r2 h
        refine ⟨v, ?_, h2⟩
        have : ¬ p.1 = k := fun y => z (by rw [← e.1]; exact y)
        simpa [valX, List.find?_cons, this] using h1
theorem some_keys {L : List DRow} (k : List Int) : (valX L k).isSome = decide (k ∈ L.map (·.1)) := by
  induction L with
  | nil => simp [valX]
  | cons p L ih =>
    by_cases z : p.1 = k
    · simp [valX, List.find?_cons, z]
    · have z' : ¬ k = p.1 := fun y => z y.symm
      have e : valX (p :: L) k = valX L k := by simp [valX, List.find?_cons, z]
      rw [e, ih, List.map_cons]
      simp [z']
theorem put_rp {L : List DRow} {kvs : List (List Int × D)} {k : List Int} {b : Addr} {d : D} (e : L.map (·.1) = kvs.map (·.1)) (r : RpAll K B (L.map (·.2.2)) (kvs.map (·.2))) (rv : Rp K B v d) :
    (putX L k b v).map (·.1) = (putD kvs k d).map (·.1) ∧ RpAll K B ((putX L k b v).map (·.2.2)) ((putD kvs k d).map (·.2)) := by
  have es : (valX L k).isSome = (lookD kvs k).isSome := by
    rw [some_keys, lookD_isSome, e]
    exact decide_eq_decide.mpr Iff.rfl
  have g : ∀ (L : List DRow) (kvs : List (List Int × D)), L.map (·.1) = kvs.map (·.1) → RpAll K B (L.map (·.2.2)) (kvs.map (·.2)) →
      RpAll K B ((L.map fun p => if p.1 = k then (p.1, p.2.1, v) else p).map (·.2.2)) ((kvs.map fun q => if q.1 = k then (q.1, d) else q).map (·.2)) := by
    intro L
    induction L with
    | nil => intro kvs e r; cases kvs with
      | nil => exact .nil
      | cons _ _ => cases e
    | cons p L ih => intro kvs e r; cases kvs with
      | nil => cases e
      | cons q kvs =>
        rw [List.map_cons, List.map_cons, List.cons.injEq] at e
        rw [List.map_cons, List.map_cons] at r
        cases r with
        | cons r1 r2 =>
          have := ih kvs e.2 r2
          have e1 : p.1 = q.1 := e.1
          simp only [List.map_cons]
          refine .cons ?_ this
          rw [e1]
          by_cases z : q.1 = k
          · rw [if_pos z, if_pos z]; exact rv
          · rw [if_neg z, if_neg z]; exact r1
  unfold putX putD
  rw [es]
  by_cases z : (lookD kvs k).isSome = true
  · rw [if_pos z, if_pos z]
    refine ⟨?_, g L kvs e r⟩
    rw [List.map_map, List.map_map]
    have e1 : (L.map ((fun p : DRow => p.1) ∘ fun p => if p.1 = k then (p.1, p.2.1, v) else p)) = L.map (·.1) := List.map_congr_left fun p _ => by simp only [Function.comp]; split <;> rfl
    have e2 : (kvs.map ((fun q : List Int × D => q.1) ∘ fun q => if q.1 = k then (q.1, d) else q)) = kvs.map (·.1) := List.map_congr_left fun p _ => by simp only [Function.comp]; split <;> rfl
    rw [e1, e2, e]
  · rw [if_neg z, if_neg z]
    refine ⟨by rw [List.map_append, List.map_append, e]; rfl, ?_⟩
    rw [List.map_append, List.map_append]
    exact r.append (.cons rv .nil)
/-! int keys -/
theorem look_rpI : ∀ {L : List (Key × V)} {kvs : List (Int × D)} {k : Int} {d : D}, L.map (·.1) = kvs.map (fun q => (Sum.inl q.1 : Key)) → RpAll K B (L.map (·.2)) (kvs.map (·.2)) → lookD kvs k = some d → ∃ v, valV L (Sum.inl k : Key) = some v ∧ Rp K B v d
  | [], [], k, d, _, _, h => by cases h
  | [], _ :: _, _, _, e, _, _ => by cases e
  | _ :: _, [], _, _, e, _, _ => by cases e
  | p :: L, q :: kvs, k, d, e, r, h => by
    rw [List.map_cons, List.map_cons, List.cons.injEq] at e
    rw [List.map_cons, List.map_cons] at r
    rw [lookD_cons] at h
    cases r with
    | cons r1 r2 =>
      by_cases z : q.1 = k
      · rw [if_pos z] at h
        cases h
        exact ⟨p.2, valV_pos (by rw [e.1, z]), r1⟩
      · rw [if_neg z] at h
        obtain ⟨v, h1, h2⟩ := look_rpI e.2 r2 h
        exact ⟨v, by rw [valV_neg (by rw [e.1]; exact fun y => z (Sum.inl.inj y))]; exact h1, h2⟩
theorem someI : ∀ {L : List (Key × V)} {kvs : List (Int × D)} (k : Int), L.map (·.1) = kvs.map (fun q => (Sum.inl q.1 : Key)) → (valV L (Sum.inl k : Key)).isSome = (lookD kvs k).isSome
  | [], [], k, _ => rfl
  | [], _ :: _, _, e => by cases e
  | _ :: _, [], _, e => by cases e
  | p :: L, q :: kvs, k, e => by
    rw [List.map_cons, List.map_cons, List.cons.injEq] at e
    rw [lookD_cons]
    by_cases z : q.1 = k
    · rw [if_pos z, valV_pos (by rw [e.1, z])]; rfl
    · rw [if_neg z, valV_neg (by rw [e.1]; exact fun y => z (Sum.inl.inj y))]
      exact someI k e.2
theorem put_rpI {L : List (Key × V)} {kvs : List (Int × D)} {k : Int} {d : D} (e : L.map (·.1) = kvs.map (fun q => (Sum.inl q.1 : Key))) (r : RpAll K B (L.map (·.2)) (kvs.map (·.2))) (rv : Rp K B v d) :
    (putK L (Sum.inl k : Key) v).map (·.1) = (putD kvs k d).map (fun q => (Sum.inl q.1 : Key)) ∧ RpAll K B ((putK L (Sum.inl k : Key) v).map (·.2)) ((putD kvs k d).map (·.2)) := by
  have es := someI (L := L) (kvs := kvs) k e
  have g : ∀ (L : List (Key × V)) (kvs : List (Int × D)), L.map (·.1) = kvs.map (fun q => (Sum.inl q.1 : Key)) → RpAll K B (L.map (·.2)) (kvs.map (·.2)) →
      (L.map fun p => if p.1 = Sum.inl k then (p.1, v) else p).map (·.1) = (kvs.map fun q => if q.1 = k then (q.1, d) else q).map (fun q => (Sum.inl q.1 : Key)) ∧ RpAll K B ((L.map fun p => if p.1 = Sum.inl k then (p.1, v) else p).map (·.2)) ((kvs.map fun q => if q.1 = k then (q.1, d) else q).map (·.2)) := by
    intro L
    induction L with
    | nil => intro kvs e r; cases kvs with
      | nil => exact ⟨rfl, .nil⟩
      | cons _ _ => cases e
    | cons p L ih => intro kvs e r; cases kvs with
      | nil => cases e
      | cons q kvs =>
        rw [List.map_cons, List.map_cons, List.cons.injEq] at e
        rw [List.map_cons, List.map_cons] at r
        cases r with
        | cons r1 r2 =>
          obtain ⟨i1, i2⟩ := ih kvs e.2 r2
          have e1 : p.1 = Sum.inl q.1 := e.1
          simp only [List.map_cons]
          rw [e1]
          by_cases z : q.1 = k
          · rw [if_pos (by rw [z]), if_pos z]
            exact ⟨by rw [i1], .cons rv i2⟩
          · rw [if_neg (fun y => z (Sum.inl.inj y)), if_neg z]
            exact ⟨by rw [i1, e1], .cons r1 i2⟩
  unfold putK putD
  rw [valV_any, es]
  by_cases z : (lookD kvs k).isSome = true
  · rw [if_pos z, if_pos z]
    exact g L kvs e r
  · rw [if_neg z, if_neg z]
    refine ⟨by rw [List.map_append, List.map_append, e]; rfl, ?_⟩
    rw [List.map_append, List.map_append]
    exact r.append (.cons rv .nil)
/-! ### slots -/
theorem SI.atT {kvs : List (List Int × D)} (h : SI K W B H σ env) (e : env[i]? = some (.dcT kvs)) : ∃ p L, σ[i]? = some (some (.ref p)) ∧ H p = some (DicO p L) ∧ (∀ q ∈ L, SqT K B q.2.1 (q.1.map V.int)) ∧ L.map (·.1) = kvs.map (·.1) ∧ RpAll K B (L.map (·.2.2)) (kvs.map (·.2)) := by
  obtain ⟨g, F, s⟩ := h
  rcases s.at_ i _ e with q | ⟨v, ev, p, L, rfl, m, o, hp, t, k, r⟩
  · cases q
  · exact ⟨p, L, ev, hp, t, k, r⟩
theorem SI.atI {kvs : List (Int × D)} (h : SI K W B H σ env) (e : env[i]? = some (.dcI kvs)) : ∃ p L, σ[i]? = some (some (.ref p)) ∧ H p = some (.dK L) ∧ L.map (·.1) = kvs.map (fun q => (Sum.inl q.1 : Key)) ∧ RpAll K B (L.map (·.2)) (kvs.map (·.2)) := by
  obtain ⟨g, F, s⟩ := h
  rcases s.at_ i _ e with q | ⟨v, ev, p, L, rfl, m, o, hp, k, r⟩
  · cases q
  · exact ⟨p, L, ev, hp, k, r⟩
theorem SI.newX (h : SI K W B H σ env) {p : Addr} {ob : HO} {r0 : Sl} (hp : H p = none) (mu : Mut (some ob)) (mk : ∀ F, p ∈ F → Ownd W B (upd H p ob) p → SlV K W B (upd H p ob) F (.ref p) r0) : SIV K W B (upd H p ob) σ env (.ref p) r0 := by
  have hb : B p = none := h.same.free hp
  have h0 : W.H0 p = none := by
    cases q : W.H0 p with
    | none => rfl
    | some u => exact absurd hp (h.1.st p (by rw [q]; simp))
  obtain ⟨g, F, s⟩ := id h
  have gn := (SI.newH h (o := ob) hp).1
  have ne : ∀ i a, a ∈ F i → a ≠ p := fun i a ha z => by
    have m := (s.there i a ha).1
    rw [z, hp] at m; exact m
  refine ⟨gn, F, [p], s.grow (fun _ _ h => h) (fun _ _ _ h => h) fun i a ha o e => by rw [upd_ne (ne i a ha)]; exact e, mk [p] (by simp) ⟨hb, .inl h0⟩, fun a ha => ?_, fun i a ha => by simpa using ne i a ha⟩
  have : a = p := by simpa using ha
  subst this
  rw [upd_same]
  exact ⟨mu, hb, .inl h0⟩
def mDNewT : M Sl := fun e => .ok (.dcT []) e
def mDNewI : M Sl := fun e => .ok (.dcI []) e
theorem so_dnewT : SO K ax tDNewX mDNewT := fun W B H σ env Q si gd p hp =>
  gd (.ref p) B _ (fun _ _ e => e) (si.newX hp trivial fun F m o => ⟨p, [], rfl, m, o, upd_same, by simp, rfl, .nil⟩)
theorem so_dnewI : SO K ax tDNewK mDNewI := fun W B H σ env Q si gd p hp =>
  gd (.ref p) B _ (fun _ _ e => e) (si.newX hp trivial fun F m o => ⟨p, [], rfl, m, o, upd_same, rfl, .nil⟩)
theorem mo_dnewT : MO ax X (.Dict [] [] pos) mDNewT := ⟨_, pe_dnewX, so_dnewT⟩
theorem mo_dnewI : MO ax X (.Dict [] [] pos) mDNewI := ⟨_, pe_dnewK, so_dnewI⟩
end
end Lp

namespace Lp
open PySem PySem.Spec L2 PyProof.Rows
set_option autoImplicit false
section
variable {ax : Ax} {X : Cx} {K : PySem.W.Frag} {W : Wd} {B B' H H' : Hp} {σ : L2.St} {env : Env'} {pos p p1 p2 p3 p4 p5 : Pos} {a b c e : Expr} {f h l : M D} {i : Nat} {io : List Nat} {x : Str} {v : V} {r : Sl} {L : List DRow}
theorem key_vals {vs : List V} {ks : List D} {k : List Int} (h : intsD ks = some k) (r : RpAll K B vs ks) : vs = k.map V.int := intsD_rp h r
/-- a key, as the model sees it -/
theorem key_at {y : V} {ks : List D} {k : List Int} (s : Same B H) (h : intsD ks = some k) (r : Rp K B y (.tuple ks)) : ∃ b, y = .ref b ∧ SqT K B b (k.map V.int) := by
  cases r with
  | tup hb z rr => rw [key_vals h rr] at hb; exact ⟨_, rfl, hb⟩
/-! ### found[k], k in found: own -/
def rOwnIx (K : PySem.W.Frag) : R2 := fun x y H Q => rXIx K x y H Q ∨ rKIx x y H Q
theorem ix_own (hu : X.A.units + 1 < cLine) : IxR X (rOwnIx X.K) := IxR.or (ix_x hu) (ix_k hu)
def mDIx (i : Nat) (k : M D) : M D := fun e0 => match e0[i]? with
  | some (.dcT _) => (k e0).bind fun y e => match e[i]?, y with
    | some (.dcT kvs), .tuple ks => ofO ((intsD ks).bind fun k => lookD kvs k) e
    | _, _ => .stuck
  | some (.dcI _) => (k e0).bind fun y e => match e[i]?, y with
    | some (.dcI kvs), .int j => ofO (lookD kvs j) e
    | _, _ => .stuck
  | _ => .stuck
theorem sd_dix {tk : TE} {k : M D} (hk : SD K ax tk k) : SD K ax (tOp (rOwnIx K) (tVar i) tk) (mDIx i k) := fun W B H σ env Q si gd => by
  unfold mDIx at gd
  cases q : env[i]? with
  | none => rw [q] at gd; exact gd.elim
  | some s =>
    rw [q] at gd
    cases s with
    | dcT kvs0 =>
      obtain ⟨p, L0, ev, _⟩ := si.atT q
      refine ⟨_, ev, hk W B H σ env _ si (Good.bind gd fun y e u B1 H1 s1 si1 r1 g1 => ?_)⟩
      cases q1 : e[i]? with
      | none => rw [q1] at g1; exact g1.elim
      | some s =>
        rw [q1] at g1
        cases s with
        | dcT kvs =>
          cases y with
          | tuple ks =>
            obtain ⟨p2, L, ev2, hp, t, hk2, rs⟩ := si1.atT q1
            rw [ev] at ev2
            cases ev2
            dsimp only at g1
            cases q2 : intsD ks with
            | none => rw [q2] at g1; exact g1.elim
            | some kk =>
              rw [q2] at g1
              obtain ⟨d, hd, qq⟩ := Good.ofO si1 g1
              obtain ⟨v, hv, rv⟩ := look_rp hk2 rs hd
              obtain ⟨b, rfl, hb⟩ := key_at si1.same q2 r1
              exact .inl ⟨p, L, kk, v, rfl, ⟨hp, fun q hq => Same.sqT si1.same (t q hq), b, rfl, Same.sqT si1.same hb⟩, hv, qq v B1 H1 (grow_same si1.same) rv⟩
          | _ => exact g1.elim
        | _ => exact g1.elim
    | dcI kvs0 =>
      obtain ⟨p, L0, ev, _⟩ := si.atI q
      refine ⟨_, ev, hk W B H σ env _ si (Good.bind gd fun y e u B1 H1 s1 si1 r1 g1 => ?_)⟩
      cases q1 : e[i]? with
      | none => rw [q1] at g1; exact g1.elim
      | some s =>
        rw [q1] at g1
        cases s with
        | dcI kvs =>
          cases y with
          | int j =>
            obtain ⟨p2, L, ev2, hp, hk2, rs⟩ := si1.atI q1
            rw [ev] at ev2
            cases ev2
            dsimp only at g1
            obtain ⟨d, hd, qq⟩ := Good.ofO si1 g1
            obtain ⟨v, hv, rv⟩ := look_rpI hk2 rs hd
            exact .inr ⟨p, L, j, v, rfl, hp, r1.int_inv, hv, qq v B1 H1 (grow_same si1.same) rv⟩
          | _ => exact g1.elim
        | _ => exact g1.elim
    | _ => exact gd.elim
theorem md_dix (i : Nat) {k : M D} (hu : X.A.units + 1 < cLine) (hk : MD ax X b k) (hs : PlainIx b) (hN : X.N[i]? = some x := by rfl) (hv : Vis X.env.scope x := by first | exact Or.inl rfl | exact Or.inr (Or.inl rfl) | exact Or.inr (Or.inr rfl)) (hd : (x == ("__debug__" : Str)) = false := by decide) (hcd : (x == ("__classdict__" : Str)) = false := by decide) :
    MD ax X (.Subscript (.Name x p1) b pos) (mDIx i k) := let ⟨_, p, s⟩ := hk; ⟨_, pe_ix (ix_own hu) (pe_var hN hv hd hcd) p hs, sd_dix s⟩
def rOwnIn (K : PySem.W.Frag) (c : Bool) : R2 := rOr (rXIn K c) (rKIn c)
def mDIn (c : Bool) (i : Nat) (k : M D) : M D := fun e0 => (k e0).bind fun y e => match e[i]?, y with
  | some (.dcT kvs), .tuple ks => ofO ((intsD ks).map fun k => .bool (c == (lookD kvs k).isSome)) e
  | some (.dcI kvs), .int j => .ok (.bool (c == (lookD kvs j).isSome)) e
  | _, _ => .stuck
theorem some_look {kvs : List (List Int × D)} (e : L.map (·.1) = kvs.map (·.1)) (k : List Int) : (valX L k).isSome = (lookD kvs k).isSome := by
  rw [some_keys, lookD_isSome, e]
  exact decide_eq_decide.mpr Iff.rfl
theorem sd_din {c : Bool} {tk : TE} {k : M D} (hk : SD K ax tk k) : SD K ax (tOp (rOwnIn K c) tk (tVar i)) (mDIn c i k) := fun W B H σ env Q si gd => by
  unfold mDIn at gd
  refine hk W B H σ env _ si (Good.bind gd fun y e u B1 H1 s1 si1 r1 g1 => ?_)
  cases q1 : e[i]? with
  | none => rw [q1] at g1; exact g1.elim
  | some s =>
    rw [q1] at g1
    cases s with
    | dcT kvs =>
      cases y with
      | tuple ks =>
        obtain ⟨p, L, ev, hp, t, hk2, rs⟩ := si1.atT q1
        dsimp only at g1
        cases q2 : intsD ks with
        | none => rw [q2] at g1; exact g1.elim
        | some kk =>
          rw [q2] at g1
          obtain ⟨d, hd, qq⟩ := Good.ofO si1 g1
          cases hd
          obtain ⟨b, rfl, hb⟩ := key_at si1.same q2 r1
          refine ⟨_, ev, .inl ⟨p, L, kk, rfl, ⟨hp, fun q hq => Same.sqT si1.same (t q hq), b, rfl, Same.sqT si1.same hb⟩, ?_⟩⟩
          rw [some_look hk2]
          exact qq _ B1 H1 (grow_same si1.same) (.bl _)
      | _ => exact g1.elim
    | dcI kvs =>
      cases y with
      | int j =>
        obtain ⟨p, L, ev, hp, hk2, rs⟩ := si1.atI q1
        dsimp only at g1
        refine ⟨_, ev, .inr ⟨p, L, j, rfl, hp, r1.int_inv, ?_⟩⟩
        rw [someI j hk2]
        exact g1 _ B1 H1 (fun _ _ e => e) si1 (.bl _)
      | _ => exact g1.elim
    | _ => exact g1.elim
theorem op_ownIn (hu : X.A.units + 1 < cLine) : OpR X (compareOp .In) (rOwnIn X.K true) := opr_or (op_xin hu) (op_kin hu)
theorem op_ownNin (hu : X.A.units + 1 < cLine) : OpR X (compareOp .NotIn) (rOwnIn X.K false) := opr_or (op_xnin hu) (op_knin hu)
theorem mt_din {op : CmpOp} (cc : Bool) (i : Nat) {k : M D} (ho : OpR X (compareOp op) (rOwnIn X.K cc)) (hk : MD ax X a k) (hN : X.N[i]? = some x := by rfl) (hv : Vis X.env.scope x := by first | exact Or.inl rfl | exact Or.inr (Or.inl rfl) | exact Or.inr (Or.inr rfl)) (hd : (x == ("__debug__" : Str)) = false := by decide) (hcd : (x == ("__classdict__" : Str)) = false := by decide) :
    MT ax X (.Compare a [op] [.Name x p1] pos) (mTst (mDIn cc i k)) := let ⟨_, p, s⟩ := hk; ⟨_, pt_cmpR ho p (pe_var hN hv hd hcd) rfl, st_tst (sd_din s)⟩
theorem md_din {op : CmpOp} (cc : Bool) (i : Nat) {k : M D} (ho : OpR X (compareOp op) (rOwnIn X.K cc)) (hk : MD ax X a k) (hN : X.N[i]? = some x := by rfl) (hv : Vis X.env.scope x := by first | exact Or.inl rfl | exact Or.inr (Or.inl rfl) | exact Or.inr (Or.inr rfl)) (hd : (x == ("__debug__" : Str)) = false := by decide) (hcd : (x == ("__classdict__" : Str)) = false := by decide) :
    MD ax X (.Compare a [op] [.Name x p1] pos) (mDIn cc i k) := let ⟨_, p, s⟩ := hk; ⟨_, pe_cmpR ho p (pe_var hN hv hd hcd) rfl, sd_din s⟩
/-! ### found[k] = v -/
def rOwnSet (K : PySem.W.Frag) : TSet := fun o i v H Q => rXSet K o i v H Q ∨ rKSet o i v H Q
def mDPut (i : Nat) (k f : M D) : M Ctl := fun e0 => (f e0).bind fun d e1 => match e1[i]? with
  | some (.dcT _) => (k e1).bind fun y e => match e[i]?, y with
    | some (.dcT kvs), .tuple ks => (match intsD ks with
      | some kk => if kvs.length < 16777216 then .ok .next (e.set i (.dcT (putD kvs kk d))) else .stuck
      | none => .stuck)
    | _, _ => .stuck
  | some (.dcI _) => (k e1).bind fun y e => match e[i]?, y with
    | some (.dcI kvs), .int j => if kvs.length < 16777216 then .ok .next (e.set i (.dcI (putD kvs j d))) else .stuck
    | _, _ => .stuck
  | _ => .stuck
theorem SI.writeT {kvs : List (List Int × D)} (h : SI K W B H σ env) (e : env[i]? = some (.dcT kvs)) : ∃ p L, σ[i]? = some (some (.ref p)) ∧ H p = some (DicO p L) ∧ (∀ q ∈ L, SqT K B q.2.1 (q.1.map V.int)) ∧ L.map (·.1) = kvs.map (·.1) ∧ RpAll K B (L.map (·.2.2)) (kvs.map (·.2)) ∧
    ∀ L' kvs', (∀ q ∈ L', SqT K B q.2.1 (q.1.map V.int)) → L'.map (·.1) = kvs'.map (·.1) → RpAll K B (L'.map (·.2.2)) (kvs'.map (·.2)) → SI K W B (upd H p (DicO p L')) σ (env.set i (.dcT kvs')) := by
  obtain ⟨p, ob, ev, hp, ⟨L, rfl, t, hk, rs⟩, w⟩ := h.writeX (C := fun p ob => ∃ L : List DRow, ob = DicO p L ∧ (∀ q ∈ L, SqT K B q.2.1 (q.1.map V.int)) ∧ L.map (·.1) = kvs.map (·.1) ∧ RpAll K B (L.map (·.2.2)) (kvs.map (·.2))) e (fun z => nomatch z) fun F v ⟨p, L, e1, m, o, hp, t, k, r⟩ => ⟨p, _, e1, m, o, hp, L, rfl, t, k, r⟩
  exact ⟨p, L, ev, hp, t, hk, rs, fun L' kvs' t' k' r' => w _ _ trivial fun F m o => ⟨p, L', rfl, m, o, upd_same, t', k', r'⟩⟩
theorem SI.writeI {kvs : List (Int × D)} (h : SI K W B H σ env) (e : env[i]? = some (.dcI kvs)) : ∃ p L, σ[i]? = some (some (.ref p)) ∧ H p = some (.dK L) ∧ L.map (·.1) = kvs.map (fun q => (Sum.inl q.1 : Key)) ∧ RpAll K B (L.map (·.2)) (kvs.map (·.2)) ∧
    ∀ L' kvs', L'.map (·.1) = kvs'.map (fun q => (Sum.inl q.1 : Key)) → RpAll K B (L'.map (·.2)) (kvs'.map (·.2)) → SI K W B (upd H p (.dK L')) σ (env.set i (.dcI kvs')) := by
  obtain ⟨p, ob, ev, hp, ⟨L, rfl, hk, rs⟩, w⟩ := h.writeX (C := fun p ob => ∃ L : List (Key × V), ob = HO.dK L ∧ L.map (·.1) = kvs.map (fun q => (Sum.inl q.1 : Key)) ∧ RpAll K B (L.map (·.2)) (kvs.map (·.2))) e (fun z => nomatch z) fun F v ⟨p, L, e1, m, o, hp, k, r⟩ => ⟨p, _, e1, m, o, hp, L, rfl, k, r⟩
  exact ⟨p, L, ev, hp, hk, rs, fun L' kvs' k' r' => w _ _ trivial fun F m o => ⟨p, L', rfl, m, o, upd_same, k', r'⟩⟩
theorem put_t {b : Addr} {k : List Int} {v : V} (t : ∀ q ∈ L, SqT K B q.2.1 (q.1.map V.int)) (hb : SqT K B b (k.map V.int)) : ∀ q ∈ putX L k b v, SqT K B q.2.1 (q.1.map V.int) := fun q hq => by
  unfold putX at hq
  split at hq
  · obtain ⟨r, hr, rfl⟩ := List.mem_map.mp hq
    split
    · exact t r hr
    · exact t r hr
  · rcases List.mem_append.mp hq with z | z
    · exact t q z
    · rw [List.mem_singleton.mp z]; exact hb
theorem ss_dput {te tk : TE} {k : M D} (hf : SD K ax te f) (hk : SD K ax tk k) : SS K ax io (tAsg te (gSub (tVar i) tk (rOwnSet K))) (mDPut i k f) := fun W B H σ env E hio si gd =>
  hf W B H σ env _ si (GoodS.bind gd fun d e1 v B1 H1 s1 si1 r1 g1 => by
    cases q : e1[i]? with
    | none => rw [q] at g1; exact g1.elim
    | some s =>
      rw [q] at g1
      cases s with
      | dcT kvs0 =>
        obtain ⟨p, L0, ev, _⟩ := si1.atT q
        refine ⟨_, ev, hk W B1 H1 σ e1 _ si1 (GoodS.bind g1 fun y e u B2 H2 s2 si2 r2 g2 => ?_)⟩
        cases q1 : e[i]? with
        | none => rw [q1] at g2; exact g2.elim
        | some s =>
          rw [q1] at g2
          cases s with
          | dcT kvs =>
            cases y with
            | tuple ks =>
              obtain ⟨p2, L, ev2, hp, t, hk2, rs, w⟩ := si2.writeT q1
              rw [ev] at ev2
              cases ev2
              dsimp only at g2
              cases q2 : intsD ks with
              | none => rw [q2] at g2; exact g2.elim
              | some kk =>
                rw [q2] at g2
                dsimp only at g2
                split at g2
                · rename_i hl
                  obtain ⟨b, rfl, hb⟩ := key_at si2.same q2 r2
                  have hlen : L.length = kvs.length := by have := congrArg List.length hk2; simpa using this
                  obtain ⟨e3, r3⟩ := put_rp (k := kk) (b := b) hk2 rs (r1.mono s2)
                  refine .inl ⟨p, L, kk, b, rfl, rfl, hp, fun q hq => Same.sqT si2.same (t q hq), Same.sqT si2.same hb, by rw [hlen, sizeLine_eq]; omega, ?_⟩
                  exact g2 σ B2 _ (fun _ _ e => e) (w _ _ (put_t t hb) e3 r3)
                · exact g2.elim
            | _ => exact g2.elim
          | _ => exact g2.elim
      | dcI kvs0 =>
        obtain ⟨p, L0, ev, _⟩ := si1.atI q
        refine ⟨_, ev, hk W B1 H1 σ e1 _ si1 (GoodS.bind g1 fun y e u B2 H2 s2 si2 r2 g2 => ?_)⟩
        cases q1 : e[i]? with
        | none => rw [q1] at g2; exact g2.elim
        | some s =>
          rw [q1] at g2
          cases s with
          | dcI kvs =>
            cases y with
            | int j =>
              obtain ⟨p2, L, ev2, hp, hk2, rs, w⟩ := si2.writeI q1
              rw [ev] at ev2
              cases ev2
              dsimp only at g2
              split at g2
              · rename_i hl
                have hlen : L.length = kvs.length := by have := congrArg List.length hk2; simpa using this
                obtain ⟨e3, r3⟩ := put_rpI (k := j) hk2 rs (r1.mono s2)
                refine .inr ⟨p, L, j, rfl, r2.int_inv, hp, by rw [hlen, sizeLine_eq]; omega, ?_⟩
                exact g2 σ B2 _ (fun _ _ e => e) (w _ _ e3 r3)
              · exact g2.elim
            | _ => exact g2.elim
          | _ => exact g2.elim
      | _ => exact g1.elim)
theorem set_own (hu : X.A.units + 1 < cLine) : PSet X (rOwnSet X.K) := PSet.or (set_x hu) (set_k hu)
theorem ms_dput (i : Nat) {k : M D} (hu : X.A.units + 1 < cLine) (hk : MD ax X b k) (h : MD ax X e f) (hN : X.N[i]? = some x := by rfl) (hv : Vis X.env.scope x := by first | exact Or.inl rfl | exact Or.inr (Or.inl rfl) | exact Or.inr (Or.inr rfl)) (hd : (x == ("__debug__" : Str)) = false := by decide) (hcd : (x == ("__classdict__" : Str)) = false := by decide)
    (hs : swapsWithSole [.Subscript (.Name x p1) b p3] e pos.line X.env = pure false := by rfl) (hw : swappedStores [.Subscript (.Name x p1) b p3] e X.env = pure none := by rfl)
    (ha : ∀ v, assign (.Subscript (.Name x p1) b p3) X.env v = (do
      let ov ← holding [v] (eval (.Name x p1) X.env)
      let iv ← holding [v, ov] (eval b X.env)
      standAt p3
      holding [v, ov, iv] (setItem ov iv v)
      release [v, ov, iv] []) := by intro _; rfl) (h1 : (assignEach [.Subscript (.Name x p1) b p3] X.env).map (·.2) = [assign (.Subscript (.Name x p1) b p3) X.env] := by rfl) :
    MS ax io X (.Assign [.Subscript (.Name x p1) b p3] e pos) (mDPut i k f) :=
  let ⟨_, p, s⟩ := h; let ⟨_, p', s'⟩ := hk; ⟨_, ps_asg p (pg_sub (pe_var hN hv hd hcd) p' (set_own hu) ha) hs hw h1, ss_dput s s'⟩
/-! ### found[k], sorted(found): frozen -/
def keyEq (d : D) (k : List Int) : Bool := match d with
  | .tuple ds => decide (intsD ds = some k)
  | _ => false
def getT (kvs : List (D × D)) (k : List Int) : Option D := (kvs.find? fun q => keyEq q.1 k).map (·.2)
def idxX (a b : D) : Option D := match a, b with
  | .dict kvs, .tuple ks => (intsD ks).bind fun k => getT kvs k
  | a, b => idxD a b
theorem get_rp : ∀ {L : List DRow} {ds : List D} {k : List Int} {d : D}, RpAll K B (L.map (·.2.2)) ds → getT ((L.map fun p => PyData.tuple (p.1.map .int)).zip ds) k = some d → ∃ v, valX L k = some v ∧ Rp K B v d
  | [], _, _, _, _, h => by cases h
  | p :: L, [], _, _, r, _ => by cases r
  | p :: L, d0 :: ds, k, d, r, h => by
    rw [List.map_cons] at r
    cases r with
    | cons r1 r2 =>
      have hk : keyEq (.tuple (p.1.map .int)) k = decide (p.1 = k) := by
        show decide (intsD (p.1.map PyData.int) = some k) = _
        rw [intsD_map]
        simp
      unfold getT at h
      rw [List.map_cons, List.zip_cons_cons, List.find?_cons] at h
      simp only [hk] at h
      by_cases z : p.1 = k
      · simp only [z, decide_true, Option.map_some, Option.some.injEq] at h
        subst h
        exact ⟨p.2.2, by simp [valX, List.find?_cons, z], r1⟩
      · simp only [z, decide_false] at h
        obtain ⟨v, h1, h2⟩ := get_rp r2 h
        exact ⟨v, by simpa [valX, List.find?_cons, z] using h1, h2⟩
theorem pure_idxX : Pure2 K (fun x y H Q => rIx K x y H Q ∨ rXIx K x y H Q) idxX := fun B H x y a b d Q s rx ry e q => by
  unfold idxX at e
  split at e
  · rename_i kvs ks
    cases q2 : intsD ks with
    | none => rw [q2] at e; cases e
    | some k =>
      rw [q2] at e
      cases rx with
      | dcx hb t rr =>
        obtain ⟨v, hv, rv⟩ := get_rp rr e
        obtain ⟨bb, rfl, hk⟩ := key_at s q2 ry
        exact .inr ⟨_, _, k, v, rfl, ⟨s _ _ hb, fun q hq => Same.sqT s (t q hq), bb, rfl, Same.sqT s hk⟩, hv, pure_val s q rv⟩
  · exact .inl (pure_idx B H x y _ _ d Q s rx ry e q)
theorem md_ixX (hu : X.A.units + 1 < cLine) (ha : MD ax X a f) (hb : MD ax X b h) (hs : PlainIx b) : MD ax X (.Subscript a b pos) (mOp idxX f h) := let ⟨_, p, s⟩ := ha; let ⟨_, p', s'⟩ := hb; ⟨_, pe_ix (IxR.or ix_seq (ix_x hu)) p p' hs, sd_op pure_idxX s s'⟩
theorem callR_or {cal : Value} {r r' : List V → Hp → VK → Prop} (h : CallR X cal r) (h' : CallR X cal r') : CallR X cal (fun xs H Q => r xs H Q ∨ r' xs H Q) := by
  intro pins s σ H xs us Q I rr q
  rcases q with q | q
  · exact h pins s σ H xs us Q I rr q
  · exact h' pins s σ H xs us Q I rr q
def sortX (xs : List D) : Option (List D) := match xs with
  | [.dict kvs] => if sortOk (kvs.map (·.1)) = true then some (sortedD (kvs.map (·.1))) else none
  | xs => sortF xs
theorem keys_zip : ∀ {L : List DRow} {ds : List D}, RpAll K B (L.map (·.2.2)) ds → ((L.map fun p => PyData.tuple (p.1.map .int)).zip ds).map (·.1) = keysD L
  | [], _, _ => rfl
  | p :: L, [], r => by cases r
  | p :: L, d :: ds, r => by
    rw [List.map_cons] at r
    cases r with
    | cons _ r2 =>
      rw [List.map_cons, List.zip_cons_cons, List.map_cons, keys_zip r2]; rfl
def PKey (K : PySem.W.Frag) (B : Hp) (L : List DRow) (v : V) (d : D) : Prop := ∃ q ∈ L, v = .ref q.2.1 ∧ d = tI q.1
theorem each_keys (L : List DRow) : PySem.W.EachIs (PKey K B L) (L.map fun p => V.ref p.2.1) (keysD L) := by
  have g : ∀ M : List DRow, (∀ q ∈ M, q ∈ L) → PySem.W.EachIs (PKey K B L) (M.map fun p => V.ref p.2.1) (keysD M) := by
    intro M
    induction M with
    | nil => intro _; exact .nil
    | cons q M ih => intro h; exact .cons ⟨q, h q (List.mem_cons_self ..), rfl, rfl⟩ (ih fun r hr => h r (List.mem_cons_of_mem _ hr))
  exact g L fun _ h => h
theorem rp_ints : ∀ k : List Int, RpAll K B (k.map V.int) (k.map PyData.int)
  | [] => .nil
  | i :: k => .cons (.int i) (rp_ints k)
theorem fresh_sortX : FreshN K (fun xs H Q => rSortA K xs H Q ∨ rSortX K xs H Q) sortX := fun B H xs as ds Q s r e q => by
  unfold sortX at e
  split at e
  · rename_i kvs
    split at e
    · rename_i ok
      cases e
      obtain ⟨v, rfl, rv⟩ := r.one
      cases rv with
      | dcx hb t rr =>
        rename_i a L dd
        rw [keys_zip rr] at ok q
        refine .inr ⟨a, L, PKey K B L, rfl, s _ _ hb, fun p hp => Same.sqT s (t p hp), each_keys L, ok, fun vs' p hz hv hp => ?_⟩
        have g : ∀ {vs : List V} {ks : List D}, PySem.W.EachIs (PKey K B L) vs ks → RpAll K B vs ks := by
          intro vs ks h
          induction h with
          | nil => exact .nil
          | cons h _ ih =>
            obtain ⟨p, hp, rfl, rfl⟩ := h
            exact .cons (.tup (t p hp) (by rw [List.length_map]; exact hz p hp) (rp_ints p.1)) ih
        have hr := g hv
        have hl : vs'.length ≤ sizeLine := by
          rw [hr.length]
          unfold sortedD
          rw [List.length_mergeSort]
          unfold sortOk at ok
          simp only [Bool.and_eq_true, decide_eq_true_eq] at ok
          exact line_of ok.1.2
        exact q vs' p B H (grow_same s) hr hl hp
    · cases e
  · exact .inl (fresh_sort B H xs _ ds Q s r e q)
/-! ### three results, the last an own thing -/
theorem SIV.putD {w : V} {d : D} (siv : SIV K W B H σ env w r) (hi : i ∉ W.io) (rv : Rp K B v d) : SIV K W B H (σ.set i (some v)) (env.set i (.dat d)) w r := by
  obtain ⟨g, F, Fv, s, sv, hm, hd⟩ := siv
  refine ⟨g, _, Fv, s.put (Fv := []) (r := .dat d) hi rv (by simp) (by simp), sv, hm, fun k a ha => ?_⟩
  by_cases z : k = i
  · simp [z] at ha
  · exact hd k a (by simpa [z] using ha)
def mPar3S (i j l : Nat) (f g : M D) (h : M Sl) : M Ctl := fun e => (f e).bind fun d1 e => (g e).bind fun d2 e => match h e with
  | .ok r e => .ok .next (((e.set i (.dat d1)).set j (.dat d2)).set l r)
  | .err k d e => .err k d e
  | .stuck => .stuck
theorem ss_par3S {te tu tv : TE} {f g : M D} {m : M Sl} {i j l : Nat} (hf : SD K ax te f) (hg : SD K ax tu g) (hm : SO K ax tv m) (hi : i ∉ io) (hj : j ∉ io) (hl : l ∉ io) : SS K ax io (tPar3 i j l (tCons te (tCons tu (tCons tv tNil)))) (mPar3S i j l f g m) := fun W B H σ env E hio si gd =>
  hf W B H σ env _ si (GoodS.bind gd fun d1 e1 v1 B1 H1 s1 si1 r1 g1 => hg W B1 H1 σ e1 _ si1 (GoodS.bind g1 fun d2 e2 v2 B2 H2 s2 si2 r2 g2 => by
    refine hm W B2 H2 σ e2 _ si2 ?_
    cases q : m e2 with
    | stuck => rw [q] at g2; exact g2
    | err k d e => rw [q] at g2; exact g2 σ
    | ok r e3 =>
      rw [q] at g2
      intro v3 B3 H3 s3 siv
      refine ⟨v1, v2, v3, rfl, ?_⟩
      exact g2 _ B3 H3 s3 (((siv.putD (by rw [hio]; exact hi) ((r1.mono s2).mono s3)).putD (by rw [hio]; exact hj) (r2.mono s3)).put (by rw [hio]; exact hl))))
theorem ms_par3S (i j l : Nat) {y z : Str} {px py pz pt pos2 : Pos} {kt k2 : Nat} {f g : M D} {m : M Sl} (nd : X.N.Nodup) (hio : io.contains i = false) (hjo : io.contains j = false) (hlo : io.contains l = false) (ha : MD ax X a f) (hb : MD ax X b g) (hcc : MO ax X c m) (hw : swappedStores [.Tuple [.Name x px, .Name y py, .Name z pz] kt pt] (.Tuple [a, b, c] k2 pos2) X.env = pure (some [x, y, z]))
    (hij : i ≠ j := by decide) (hil : i ≠ l := by decide) (hjl : j ≠ l := by decide) (hi : X.N[i]? = some x := by rfl) (hj : X.N[j]? = some y := by rfl) (hl : X.N[l]? = some z := by rfl) (hx : X.env.scope.names.lookup x = some .local := by rfl) (hy : X.env.scope.names.lookup y = some .local := by rfl) (hz : X.env.scope.names.lookup z = some .local := by rfl) (hc : X.calm = true := by rfl)
    (hs : swapsWithSole [.Tuple [.Name x px, .Name y py, .Name z pz] kt pt] (.Tuple [a, b, c] k2 pos2) pos.line X.env = pure false := by rfl)
    (he : starEach [a, b, c] X.env = (false, eval a X.env) :: starEach [b, c] X.env := by rfl) (he2 : starEach [b, c] X.env = (false, eval b X.env) :: starEach [c] X.env := by rfl) (he3 : starEach [c] X.env = (false, eval c X.env) :: starEach [] X.env := by rfl) :
    MS ax io X (.Assign [.Tuple [.Name x px, .Name y py, .Name z pz] kt pt] (.Tuple [a, b, c] k2 pos2) pos) (mPar3S i j l f g m) :=
  let ⟨_, p, s⟩ := ha; let ⟨_, p', s'⟩ := hb; let ⟨_, p'', s''⟩ := hcc
  ⟨_, ps_par3 hc nd hi hj hl hij hil hjl hx hy hz (pa_cons p (pa_cons p' (pa_cons p'' pa_nil he3) he2) he) hw hs, ss_par3S s s' s'' (by simpa using hio) (by simpa using hjo) (by simpa using hlo)⟩
end
/-! ### one step of a mirror, dicts -/
section
variable {V : D → Env' → Prop} {U : Bool → Env' → Prop} {S : Ctl → Env' → Prop} {T : Sl → Env' → Prop} {e : Env'} {f g k : M D} {m : M Sl} {i j l : Nat}
theorem i_par3S (q : Wp (f e) fun d1 e => Wp (g e) fun d2 e => Wp (m e) fun r e => S .next (((e.set i (.dat d1)).set j (.dat d2)).set l r)) : Wp (mPar3S i j l f g m e) S := by
  obtain ⟨d1, e1, h1, h2⟩ := q.ex
  obtain ⟨d2, e2, h3, h4⟩ := h2.ex
  obtain ⟨r, e3, h5, h6⟩ := h4.ex
  unfold mPar3S
  rw [h1]
  simp only [Out.bind_ok, h3, h5]
  exact wp_ok.mpr h6
theorem i_dnewT (q : T (.dcT []) e) : Wp (mDNewT e) T := by unfold mDNewT; exact wp_ok.mpr q
theorem i_dnewI (q : T (.dcI []) e) : Wp (mDNewI e) T := by unfold mDNewI; exact wp_ok.mpr q
theorem i_dixI {kvs : List (Int × D)} {n : Int} {d : D} (he : e[i]? = some (.dcI kvs)) (hk : Wp (k e) fun d e' => d = .int n ∧ e' = e) (hd : lookD kvs n = some d) (q : V d e) : Wp (mDIx i k e) V := by
  obtain ⟨y, e1, h1, rfl, rfl⟩ := hk.ex
  unfold mDIx
  rw [he]
  show Wp ((k e1).bind _) V
  rw [h1]
  simp only [Out.bind_ok, he, hd]
  exact wp_ofO_some.mpr q
theorem i_dixT {kvs : List (List Int × D)} {n : List Int} {d : D} (he : e[i]? = some (.dcT kvs)) (hk : Wp (k e) fun d e' => d = tI n ∧ e' = e) (hd : lookD kvs n = some d) (q : V d e) : Wp (mDIx i k e) V := by
  obtain ⟨y, e1, h1, rfl, rfl⟩ := hk.ex
  unfold mDIx
  rw [he]
  show Wp ((k e1).bind _) V
  rw [h1]
  have : (intsD (n.map PyData.int)).bind (fun k => lookD kvs k) = some d := by rw [intsD_map]; exact hd
  simp only [Out.bind_ok, he]
  show Wp (ofO ((intsD (n.map PyData.int)).bind fun k => lookD kvs k) e1) V
  rw [this]
  exact wp_ofO_some.mpr q
theorem i_dinI {c : Bool} {kvs : List (Int × D)} {n : Int} (he : e[i]? = some (.dcI kvs)) (hk : Wp (k e) fun d e' => d = .int n ∧ e' = e) (q : V (.bool (c == (lookD kvs n).isSome)) e) : Wp (mDIn c i k e) V := by
  obtain ⟨y, e1, h1, rfl, rfl⟩ := hk.ex
  unfold mDIn
  rw [h1]
  simp only [Out.bind_ok, he]
  exact wp_ok.mpr q
theorem i_dputI {kvs : List (Int × D)} {n : Int} {d : D} (he : e[i]? = some (.dcI kvs)) (hv : Wp (f e) fun x e' => x = d ∧ e' = e) (hk : Wp (k e) fun d e' => d = .int n ∧ e' = e) (hl : kvs.length < 16777216) (q : S .next (e.set i (.dcI (putD kvs n d)))) : Wp (mDPut i k f e) S := by
  obtain ⟨y, e1, h1, rfl, rfl⟩ := hv.ex
  obtain ⟨y2, e2, h2, rfl, rfl⟩ := hk.ex
  unfold mDPut
  rw [h1]
  simp only [Out.bind_ok, he, h2, if_pos hl]
  exact wp_ok.mpr q
/-- the value and the key may draw -/
theorem i_dputT {n : List Int} {d : D} {kvs0 : List (List Int × D)} (q : Wp (f e) fun d e1 => e1[i]? = some (.dcT kvs0) ∧ Wp (k e1) fun y e2 => ∃ kvs n, y = tI n ∧ e2[i]? = some (.dcT kvs) ∧ kvs.length < 16777216 ∧ S .next (e2.set i (.dcT (putD kvs n d)))) : Wp (mDPut i k f e) S := by
  obtain ⟨d, e1, h1, he1, h2⟩ := q.ex
  obtain ⟨y, e2, h3, kvs, n, rfl, he2, hl, h4⟩ := h2.ex
  unfold mDPut
  rw [h1]
  simp only [Out.bind_ok, he1, h3, he2]
  show Wp (match intsD (n.map PyData.int) with | some kk => _ | none => _) S
  rw [intsD_map]
  show Wp (if kvs.length < 16777216 then _ else _) S
  rw [if_pos hl]
  exact wp_ok.mpr h4
/-- a dict is frozen when it is named -/
theorem i_varT {kvs : List (List Int × D)} (hv : e[i]? = some (.dcT kvs)) (q : V (dctD kvs) (e.set i (.dat (dctD kvs)))) : Wp (mVar i e) V := wp_var.mpr (by rw [hv]; exact q)
end
theorem keys_dct (kvs : List (List Int × D)) : (kvs.map fun q => (PyData.tuple (q.1.map .int), q.2)).map (·.1) = (kvs.map (·.1)).map tI := by rw [List.map_map, List.map_map]; rfl
theorem sortX_dct {kvs : List (List Int × D)} (hne : ∀ q ∈ kvs, q.1 ≠ []) (h : kvs.length ≤ 16777216) : sortX [dctD kvs] = some ((sortI (kvs.map (·.1))).map tI) := by
  have := sort_tI (xs := kvs.map (·.1)) (fun x hx => by obtain ⟨q, hq, rfl⟩ := List.mem_map.mp hx; exact hne q hq) (by rw [List.length_map]; exact h)
  show (if sortOk ((kvs.map fun q => (PyData.tuple (q.1.map .int), q.2)).map (·.1)) = true then some (sortedD ((kvs.map fun q => (PyData.tuple (q.1.map .int), q.2)).map (·.1))) else none) = _
  rw [keys_dct]
  exact this
theorem idxX_dct {kvs : List (List Int × D)} {k : List Int} {d : D} (h : lookD kvs k = some d) : idxX (dctD kvs) (tI k) = some d := by
  show (intsD (k.map PyData.int)).bind (fun k => getT (kvs.map fun q => (PyData.tuple (q.1.map .int), q.2)) k) = some d
  rw [intsD_map]
  show getT (kvs.map fun q => (PyData.tuple (q.1.map .int), q.2)) k = some d
  unfold getT lookD at *
  rw [List.find?_map]
  have e : ((fun q : D × D => keyEq q.1 k) ∘ fun q : List Int × D => (PyData.tuple (q.1.map .int), q.2)) = fun q => decide (q.1 = k) := by
    funext q
    show decide (intsD (q.1.map PyData.int) = some k) = _
    rw [intsD_map]
    simp
  rw [e, Option.map_map]
  exact h
end Lp

namespace Lp
open PySem PySem.Spec L2 PyProof.Rows
set_option autoImplicit false
section
variable {ax : Ax} {X : Cx} {K : PySem.W.Frag} {W : Wd} {B B' H H' : Hp} {σ : L2.St} {env : Env'} {pos p p1 p2 p3 p4 p5 : Pos} {a b c e : Expr} {f h l : M D} {i : Nat} {io : List Nat} {x : Str} {v : V} {r : Sl}
/-! ### three results by way of a tuple, the last an own thing -/
theorem SIV.newH (siv : SIV K W B H σ env v r) {p : Addr} {ob : HO} (hp : H p = none) : SIV K W B (upd H p ob) σ env v r := by
  obtain ⟨g, F, Fv, s, sv, hm, hd⟩ := siv
  have gn := (SI.newH (o := ob) ⟨g, F, s⟩ hp).1
  have ne : ∀ a, Mut (H a) → a ≠ p := fun a m z => by rw [z, hp] at m; exact m
  refine ⟨gn, F, Fv, s.grow (fun _ _ e => e) (fun _ _ _ e => e) fun i a ha o e => by rw [upd_ne (ne a (s.there i a ha).1)]; exact e, sv.grow (fun _ _ e => e) (fun _ _ e => e) fun a ha o e => by rw [upd_ne (ne a (hm a ha).1)]; exact e, fun a ha => ⟨by rw [upd_ne (ne a (hm a ha).1)]; exact (hm a ha).1, (hm a ha).2.nb, (hm a ha).2.fr⟩, hd⟩
theorem ss_asg3S {te tu tv : TE} {f g : M D} {m : M Sl} {i j l : Nat} (hf : SD K ax te f) (hg : SD K ax tu g) (hm : SO K ax tv m) (hi : i ∉ io) (hj : j ∉ io) (hl : l ∉ io) :
    SS K ax io (tAsg (tTup (tCons te (tCons tu (tCons tv tNil)))) (gTup K 3 (gCons (gName i) (gCons (gName j) (gCons (gName l) gNil))))) (mPar3S i j l f g m) := fun W B H σ env E hio si gd =>
  hf W B H σ env _ si (GoodS.bind gd fun d1 e1 v1 B1 H1 s1 si1 r1 g1 => hg W B1 H1 σ e1 _ si1 (GoodS.bind g1 fun d2 e2 v2 B2 H2 s2 si2 r2 g2 => by
    refine hm W B2 H2 σ e2 _ si2 ?_
    cases q : m e2 with
    | stuck => rw [q] at g2; exact g2
    | err k d e => rw [q] at g2; exact g2 σ
    | ok r e3 =>
      rw [q] at g2
      intro v3 B3 H3 s3 siv
      refine ⟨by rw [sizeLine_eq]; simp, fun p hp => ⟨p, [v1, v2, v3], rfl, SqT.of upd_same, rfl, v1, [v2, v3], rfl, v2, [v3], rfl, v3, [], rfl, rfl, ?_⟩⟩
      exact g2 _ B3 _ s3 ((((siv.newH hp).putD (by rw [hio]; exact hi) ((r1.mono s2).mono s3)).putD (by rw [hio]; exact hj) (r2.mono s3)).put (by rw [hio]; exact hl))))
theorem ms_asg3S (i j l : Nat) {y z : Str} {px py pz pt pos2 : Pos} {kt k2 : Nat} {f g : M D} {m : M Sl} (nd : X.N.Nodup) (hio : io.contains i = false) (hjo : io.contains j = false) (hlo : io.contains l = false) (ha : MD ax X a f) (hb : MD ax X b g) (hcc : MO ax X c m)
    (hi : X.N[i]? = some x := by rfl) (hj : X.N[j]? = some y := by rfl) (hl : X.N[l]? = some z := by rfl) (hx : Loc X.env.scope x := by first | exact Or.inl rfl | exact Or.inr rfl) (hy : Loc X.env.scope y := by first | exact Or.inl rfl | exact Or.inr rfl) (hz : Loc X.env.scope z := by first | exact Or.inl rfl | exact Or.inr rfl) (hc : X.calm = true := by rfl)
    (hfx : X.fn x = true ∨ X.env.scope.names.lookup x = some .local := by first | exact .inl rfl | exact .inr rfl) (hfy : X.fn y = true ∨ X.env.scope.names.lookup y = some .local := by first | exact .inl rfl | exact .inr rfl) (hfz : X.fn z = true ∨ X.env.scope.names.lookup z = some .local := by first | exact .inl rfl | exact .inr rfl)
    (he : starEach [a, b, c] X.env = (false, eval a X.env) :: starEach [b, c] X.env := by rfl) (he2 : starEach [b, c] X.env = (false, eval b X.env) :: starEach [c] X.env := by rfl) (he3 : starEach [c] X.env = (false, eval c X.env) :: starEach [] X.env := by rfl)
    (ha1 : (assignEach [.Name x px, .Name y py, .Name z pz] X.env).map (·.2) = assign (.Name x px) X.env :: (assignEach [.Name y py, .Name z pz] X.env).map (·.2) := by rfl) (ha2 : (assignEach [.Name y py, .Name z pz] X.env).map (·.2) = assign (.Name y py) X.env :: (assignEach [.Name z pz] X.env).map (·.2) := by rfl) (ha3 : (assignEach [.Name z pz] X.env).map (·.2) = assign (.Name z pz) X.env :: (assignEach [] X.env).map (·.2) := by rfl)
    (hn : (assignEach [.Name x px, .Name y py, .Name z pz] X.env).length = 3 := by rfl) (hst : (assignEach [.Name x px, .Name y py, .Name z pz] X.env).findIdx? (·.1) = none := by rfl)
    (hs : swapsWithSole [.Tuple [.Name x px, .Name y py, .Name z pz] kt pt] (.Tuple [a, b, c] k2 pos2) pos.line X.env = pure false := by rfl) (hw : swappedStores [.Tuple [.Name x px, .Name y py, .Name z pz] kt pt] (.Tuple [a, b, c] k2 pos2) X.env = pure none := by rfl) (h1 : (assignEach [.Tuple [.Name x px, .Name y py, .Name z pz] kt pt] X.env).map (·.2) = [assign (.Tuple [.Name x px, .Name y py, .Name z pz] kt pt) X.env] := by rfl) :
    MS ax io X (.Assign [.Tuple [.Name x px, .Name y py, .Name z pz] kt pt] (.Tuple [a, b, c] k2 pos2) pos) (mPar3S i j l f g m) :=
  let ⟨_, p, s⟩ := ha; let ⟨_, p', s'⟩ := hb; let ⟨_, p'', s''⟩ := hcc
  ⟨_, ps_asg (pe_tup (pa_cons p (pa_cons p' (pa_cons p'' pa_nil he3) he2) he)) (pg_tup hc (pgs_cons (pg_name nd hi hx hfx) (pgs_cons (pg_name nd hj hy hfy) (pgs_cons (pg_name nd hl hz hfz) pgs_nil ha3) ha2) ha1) hn hst) hs hw h1, ss_asg3S s s' s'' (by simpa using hio) (by simpa using hjo) (by simpa using hlo)⟩
end
end Lp

namespace Lp
open PySem PySem.Spec L2 PyProof.Rows StX
set_option autoImplicit false
section
variable {ax : Ax} {X : Cx} {K : PySem.W.Frag} {W : Wd} {B B' H H' : Hp} {σ : L2.St} {env : Env'} {pos p p1 p2 p3 p4 p5 apos cpos : Pos} {a b c e : Expr} {es : List Expr} {f h l : M D} {fa : M (List D)} {i : Nat} {io : List Nat} {x : Str} {v : V} {r : Sl} {L : List DRow} {st : Stmt}
/-! ### a statement that is never reached -/
def mNever : M Ctl := fun _ => .stuck
theorem ms_never : MS ax io X st mNever := ⟨fun _ _ _ => False, ⟨fun _ _ _ _ _ _ z => z.elim⟩, fun W B H σ env E _ _ g => g.elim⟩
/-! ### starred parts of a display, of a call -/
def mStar (f : M D) (r : M (List D)) : M (List D) := fun e => (f e).bind fun d e => match seqD d with
  | some xs => (r e).bind fun ys e => .ok (xs ++ ys) e
  | none => .stuck
theorem sa_star {te : TE} {ta : TA} {r : M (List D)} (hf : SD K ax te f) (hr : SA K ax ta r) : SA K ax (tStar K te ta) (mStar f r) := fun W B H σ env Q si gd =>
  hf W B H σ env _ si (Good.bind gd fun d e v B1 H1 s1 si1 r1 g1 => by
    cases d with
    | list ds =>
      cases r1 with
      | lst hb z rr =>
        rename_i a vs
        refine ⟨a, vs, rfl, .inr (SqL.of (si1.same _ _ hb)), hr W B1 H1 σ e _ si1 (Good.bind g1 fun ys e2 us B2 H2 s2 si2 r2 g2 => ?_)⟩
        exact g2 _ B2 H2 (fun _ _ e => e) si2 ((rr.mono s2).append r2)
    | tuple ds =>
      cases r1 with
      | tup hb z rr =>
        rename_i a vs
        refine ⟨a, vs, rfl, .inl (Same.sqT si1.same hb), hr W B1 H1 σ e _ si1 (Good.bind g1 fun ys e2 us B2 H2 s2 si2 r2 g2 => ?_)⟩
        exact g2 _ B2 H2 (fun _ _ e => e) si2 ((rr.mono s2).append r2)
    | _ => exact g1.elim)
theorem ma_star {r : M (List D)} (hf : MD ax X e f) (hr : MA ax X es r) (hs : starEach (.Starred e p :: es) X.env = (true, eval e X.env) :: starEach es X.env := by rfl) : MA ax X (.Starred e p :: es) (mStar f r) :=
  let ⟨_, p, s⟩ := hf; let ⟨_, p', s'⟩ := hr; ⟨_, pa_star p p' hs, sa_star s s'⟩
theorem i_star {Z : List D → Env' → Prop} {r : M (List D)} {e : Env'} (q : Wp (f e) fun d e => ∃ xs, seqD d = some xs ∧ Wp (r e) fun ys e => Z (xs ++ ys) e) : Wp (mStar f r e) Z := by
  obtain ⟨d, e1, h1, xs, h2, h3⟩ := q.ex
  obtain ⟨ys, e2, h4, h5⟩ := h3.ex
  unfold mStar
  rw [h1]
  simp only [Out.bind_ok, h2, h4]
  exact wp_ok.mpr h5
/-! ### found.get(k, x) -/
def IsDX (H : Hp) (a : Addr) : Prop := (∃ L, H a = some (DicO a L)) ∨ ∃ kvs, H a = some (.dK kvs)
def tGetX (K : PySem.W.Frag) (td ty tx : TE) : TE := fun σ H Q => td σ H fun x H1 => ∃ a, x = .ref a ∧ IsDX H1 a ∧ ty σ H1 fun y H2 => tx σ H2 fun z H3 =>
  (∃ L k, DAt K H3 a L y k ∧ Q ((valX L k).getD z) H3) ∨ ∃ kvs i, H3 a = some (.dK kvs) ∧ y = .int i ∧ Q ((valV kvs (Sum.inl i : Key)).getD z) H3
theorem isDX_at {pins : List (Addr × Obj)} {H : Hp} {s : Shared} {a : Addr} (I : Inv X pins σ H s) (d : IsDX H a) : s.TypeIs (.ref a) "dict" ∧ ∀ b, Value.ref a = .ref b → ∃ ob, s.heap.get? b = some ob ∧ ob.dict = none := by
  rcases d with ⟨L, e⟩ | ⟨kvs, e⟩
  · obtain ⟨⟨_, _, _, _, _, o, _, _, h1, h2, _⟩, _, _⟩ := (show ObjOk X.prog X.w H s.heap a (DicO a L) from I.hok a _ e)
    refine ⟨⟨o, h1, h2.1⟩, fun b q => ?_⟩
    cases q
    exact ⟨o, h1, h2.2.1⟩
  · have := isD_at I (.inl ⟨kvs, .inl e⟩)
    exact ⟨this.1, this.2.1⟩
theorem x_get2 {pins : List (Addr × Obj)} {H : Hp} {s : Shared} {a : Addr} {y d : V} {u r : Value} {k : List Int} {A : Around} {E : Value → Shared → Prop} {Q : Value → Shared → Prop} (hu : A.units + 1 < cLine) (I : Inv X pins σ H s) (g : DAt X.K H a L y k) (ry : RelV y u) (rd : RelV d r) (h : ∀ w' s', Inv X pins σ H s' → RelV ((valX L k).getD d) w' → Q w' s') :
    wpAny (model X.prog X.w) A (call (.builtin "dict.get") [.ref a, u, r]) Q E s := by
  obtain ⟨e, t, b, rfl, hb⟩ := g
  cases (show u = Value.ref b from ry)
  obtain ⟨_, hd, xs, pr, dd⟩ := dic_rd I e t
  refine call_meetsIn PySem.F.slot_dict_get dd.typeIs PySem.F.entry_dict_get (PySem.F.args_dict_get_3 _ _ _) (meetsH_dict_get_default (tupleKind (intKind X.prog X.w)) a b hd r) ⟨tupleKind_room_in1 hu, k, xs, I.isT hb, dd, h _ _ (I.tok _) ?_⟩
  exact (PX.val pr k).getD rd
theorem pe_getX {td ty tx : TE} {o e f : Expr} (hu : X.A.units + 1 < cLine) (ho : PE X o td) (he : PE X e ty) (hf : PE X f tx) (m : M2 X o "get" apos e f cpos) : PE X (.Call (.Attribute o "get" apos) [e, f] [] cpos) (tGetX X.K td ty tx) := by
  refine ⟨fun pins s σ H Q I h => ?_⟩
  refine wpAny_Call_method m.base m.few m.line PySem.F.plainAttrs_dict PySem.F.slot_dict_get PySem.F.type_dict_get (thn (ho.run pins s σ H _ I h) fun u s1 ⟨x, H1, I1, rx, a, ex, d, q1⟩ => ?_)
  subst ex
  obtain rfl : u = Value.ref a := rx
  obtain ⟨t1, t2⟩ := isDX_at I1 d
  refine ⟨t1, t2, ?_⟩
  rw [m.trees]
  refine Calls.callWith_builtin rfl (Calls.evalArgs_plain (Calls.spliced_cons (thn (he.run pins s1 σ H1 _ I1 q1) fun iv s2 ⟨y, H2, I2, ry, q2⟩ =>
    Calls.spliced_cons (thn (hf.run pins s2 σ H2 _ I2 q2) fun fv s3 ⟨z, H3, I3, rz, q3⟩ => Calls.spliced_nil ?_))))
  rcases q3 with ⟨L, k, g, q3⟩ | ⟨kvs, i, e1, rfl, q3⟩
  · exact x_get2 hu I3 g ry rz fun w' s4 I4 rw' => ⟨_, H3, I4, rw', q3⟩
  · exact d_get2 hu I3 (DGet.k (k := .inl i) e1) ry rz fun w' s4 I4 rw' => ⟨_, H3, I4, rw', q3⟩
def mDGet (i : Nat) (k f : M D) : M D := fun e0 => match e0[i]? with
  | some (.dcT _) => (k e0).bind fun y e1 => (f e1).bind fun z e => match e[i]?, y with
    | some (.dcT kvs), .tuple ks => ofO ((intsD ks).map fun k => (lookD kvs k).getD z) e
    | _, _ => .stuck
  | some (.dcI _) => (k e0).bind fun y e1 => (f e1).bind fun z e => match e[i]?, y with
    | some (.dcI kvs), .int j => .ok ((lookD kvs j).getD z) e
    | _, _ => .stuck
  | _ => .stuck
theorem getD_rp {kvs : List (List Int × D)} {k : List Int} {z : D} {w : V} (e : L.map (·.1) = kvs.map (·.1)) (r : RpAll K B (L.map (·.2.2)) (kvs.map (·.2))) (rz : Rp K B w z) : Rp K B ((valX L k).getD w) ((lookD kvs k).getD z) := by
  cases q : lookD kvs k with
  | some d =>
    obtain ⟨v, hv, rv⟩ := look_rp e r q
    rw [hv]; exact rv
  | none =>
    have := some_look (L := L) e k
    rw [q] at this
    have : valX L k = none := by simpa using this
    rw [this]; exact rz
theorem getD_rpI {Lk : List (Key × V)} {kvs : List (Int × D)} {k : Int} {z : D} {w : V} (e : Lk.map (·.1) = kvs.map (fun q => (Sum.inl q.1 : Key))) (r : RpAll K B (Lk.map (·.2)) (kvs.map (·.2))) (rz : Rp K B w z) : Rp K B ((valV Lk (Sum.inl k : Key)).getD w) ((lookD kvs k).getD z) := by
  cases q : lookD kvs k with
  | some d =>
    obtain ⟨v, hv, rv⟩ := look_rpI e r q
    rw [hv]; exact rv
  | none =>
    have := someI k e
    rw [q] at this
    have : valV Lk (Sum.inl k : Key) = none := by simpa using this
    rw [this]; exact rz
theorem sd_dget {tk tx : TE} {k : M D} (hk : SD K ax tk k) (hx : SD K ax tx f) : SD K ax (tGetX K (tVar i) tk tx) (mDGet i k f) := fun W B H σ env Q si gd => by
  unfold mDGet at gd
  cases q : env[i]? with
  | none => rw [q] at gd; exact gd.elim
  | some s =>
    rw [q] at gd
    cases s with
    | dcT kvs0 =>
      obtain ⟨p, L0, ev, hp0, _⟩ := si.atT q
      refine ⟨_, ev, p, rfl, .inl ⟨L0, hp0⟩, hk W B H σ env _ si (Good.bind gd fun y e1 u B1 H1 s1 si1 r1 g1 => hx W B1 H1 σ e1 _ si1 (Good.bind g1 fun z e w B2 H2 s2 si2 r2 g2 => ?_))⟩
      cases q1 : e[i]? with
      | none => rw [q1] at g2; exact g2.elim
      | some s =>
        rw [q1] at g2
        cases s with
        | dcT kvs =>
          cases y with
          | tuple ks =>
            obtain ⟨p2, L, ev2, hp, t, hk2, rs⟩ := si2.atT q1
            rw [ev] at ev2
            cases ev2
            dsimp only at g2
            cases q2 : intsD ks with
            | none => rw [q2] at g2; exact g2.elim
            | some kk =>
              rw [q2] at g2
              obtain ⟨d, hd, qq⟩ := Good.ofO si2 g2
              cases hd
              obtain ⟨b, rfl, hb⟩ := key_at si1.same q2 r1
              have hb2 : SqT K H2 b (kk.map V.int) := by
                obtain ⟨b', e', hb'⟩ := key_at si2.same q2 (r1.mono s2)
                cases e'
                exact Same.sqT si2.same hb'
              exact .inl ⟨L, kk, ⟨hp, fun q hq => Same.sqT si2.same (t q hq), b, rfl, hb2⟩, qq _ B2 H2 (grow_same si2.same) (getD_rp hk2 rs r2)⟩
          | _ => exact g2.elim
        | _ => exact g2.elim
    | dcI kvs0 =>
      obtain ⟨p, L0, ev, hp0, _⟩ := si.atI q
      refine ⟨_, ev, p, rfl, .inr ⟨L0, hp0⟩, hk W B H σ env _ si (Good.bind gd fun y e1 u B1 H1 s1 si1 r1 g1 => hx W B1 H1 σ e1 _ si1 (Good.bind g1 fun z e w B2 H2 s2 si2 r2 g2 => ?_))⟩
      cases q1 : e[i]? with
      | none => rw [q1] at g2; exact g2.elim
      | some s =>
        rw [q1] at g2
        cases s with
        | dcI kvs =>
          cases y with
          | int j =>
            obtain ⟨p2, L, ev2, hp, hk2, rs⟩ := si2.atI q1
            rw [ev] at ev2
            cases ev2
            dsimp only at g2
            exact .inr ⟨L, j, hp, r1.int_inv, g2 _ B2 H2 (fun _ _ e => e) si2 (getD_rpI hk2 rs r2)⟩
          | _ => exact g2.elim
        | _ => exact g2.elim
    | _ => exact gd.elim
theorem md_dget (i : Nat) {k : M D} (hu : X.A.units + 1 < cLine) (hk : MD ax X a k) (hx : MD ax X b f) (hN : X.N[i]? = some x := by rfl) (hv : Vis X.env.scope x := by first | exact Or.inl rfl | exact Or.inr (Or.inl rfl) | exact Or.inr (Or.inr rfl)) (hd : (x == ("__debug__" : Str)) = false := by decide) (hcd : (x == ("__classdict__" : Str)) = false := by decide)
    (h1 : attributeBase (.Name x p1) "get" X.env (eval (.Name x p1) X.env) = eval (.Name x p1) X.env := by rfl)
    (h2 : ((backTo cpos (starEach [a, b] X.env)).all (fun x => !x.1) && (backToKw cpos (keywordEach [] X.env)).all (fun x => x.1.isSome) && decide (([a, b] : List Expr).length + ([] : List Keyword).length + (if ([] : List Keyword).isEmpty then 0 else 1) < 30)) = true := by rfl)
    (h3 : (apos.endLine == cpos.line) = true := by rfl) (h4 : backTo cpos (starEach [a, b] X.env) = [(false, eval a X.env), (false, eval b X.env)] := by rfl) :
    MD ax X (.Call (.Attribute (.Name x p1) "get" apos) [a, b] [] cpos) (mDGet i k f) := let ⟨_, p, s⟩ := hk; let ⟨_, p', s'⟩ := hx; ⟨_, pe_getX hu (pe_var hN hv hd hcd) p p' ⟨h1, h2, h3, h4⟩, sd_dget s s'⟩
end
section
variable {V : D → Env' → Prop} {e : Env'} {f k : M D} {i : Nat}
theorem i_dgetT {kvs : List (List Int × D)} {n : List Int} {z : D} (he : e[i]? = some (.dcT kvs)) (hk : Wp (k e) fun d e' => d = tI n ∧ e' = e) (hf : Wp (f e) fun d e' => d = z ∧ e' = e) (q : V ((lookD kvs n).getD z) e) : Wp (mDGet i k f e) V := by
  obtain ⟨y, e1, h1, rfl, rfl⟩ := hk.ex
  obtain ⟨y2, e2, h2, rfl, rfl⟩ := hf.ex
  unfold mDGet
  rw [he]
  show Wp ((k e2).bind _) V
  rw [h1]
  simp only [Out.bind_ok, h2, he]
  show Wp (ofO ((intsD (n.map PyData.int)).map fun k => (lookD kvs k).getD y2) e2) V
  rw [intsD_map]
  exact wp_ofO_some.mpr q
end
end Lp
namespace Lp
open PySem PySem.Spec L2
/-- a def whose mirror is never run -/
theorem fnG_never {P : Program} {w : World} {K : PySem.W.Frag} {mg : Str → Option Value} {base : Heap} {k : Nat} {f : Addr} {fd : FuncData} {ps : List Str} {ec : Nat → Value} {io : List Nat} {g : Env' → Out Sl} (h : ∀ e, g e = .stuck) : FnG P w K mg base k f fd ps (spM K ec ps.length io g) :=
  ⟨fun _ _ _ _ q => q.1, fun A outer s H args us vs Q E gd hr e0 hb hv q => by
    obtain ⟨_, W, a, _, _, _, _, q⟩ := q
    rw [h a] at q
    exact q.elim⟩
end Lp
namespace Lp
open PySem PySem.Spec L2
section
set_option autoImplicit false
variable {ax : Ax} {X : Cx} {K : PySem.W.Frag} {a b c : Expr} {pos : Pos}
/-! ### a if c else b, as a test -/
def tIfT (tc ta tb : TT) : TT := fun σ H Q => tc σ H fun z H1 => if z = true then ta σ H1 Q else tb σ H1 Q
theorem pt_ifT {tc ta tb : TT} (hc : PT X c tc) (ha : PT X a ta) (hb : PT X b tb) : PT X (.IfExp c a b pos) (tIfT tc ta tb) := by
  refine ⟨fun pins s σ H Q I h => ?_⟩
  show wpAny _ _ (isTrue c X.env (eval c X.env) >>= fun z => if z = true then isTrue a X.env (eval a X.env) else isTrue b X.env (eval b X.env)) _ _ _
  refine wpAny_bind (thn (hc.run pins s σ H _ I h) fun d s1 ⟨H1, I1, q1⟩ => ?_)
  cases d with
  | true => exact ha.run pins s1 σ H1 Q I1 q1
  | false => exact hb.run pins s1 σ H1 Q I1 q1
def mIfT (t u v : M Bool) : M Bool := fun e => (t e).bind fun x e => if x = true then u e else v e
theorem st_ifT {tc ta tb : TT} {t u v : M Bool} (hc : ST K ax tc t) (ha : ST K ax ta u) (hb : ST K ax tb v) : ST K ax (tIfT tc ta tb) (mIfT t u v) := fun W B H σ env Q si gd =>
  hc W B H σ env _ si (Good.bind gd fun x e z B1 H1 s1 si1 r1 g1 => by
    subst r1
    cases z with
    | true => exact ha W B1 H1 σ e Q si1 g1
    | false => exact hb W B1 H1 σ e Q si1 g1)
theorem mt_ifT {t u v : M Bool} (hc : MT ax X c t) (ha : MT ax X a u) (hb : MT ax X b v) : MT ax X (.IfExp c a b pos) (mIfT t u v) := let ⟨_, p, s⟩ := hc; let ⟨_, p1, s1⟩ := ha; let ⟨_, p2, s2⟩ := hb; ⟨_, pt_ifT p p1 p2, st_ifT s s1 s2⟩
end
theorem i_ifT {U : Bool → Env' → Prop} {e : Env'} {t u v : M Bool} (q : Wp (t e) fun x e => if x = true then Wp (u e) U else Wp (v e) U) : Wp (mIfT t u v e) U := by
  obtain ⟨x, e1, h1, h2⟩ := q.ex
  unfold mIfT
  rw [h1]
  show Wp (if x = true then u e1 else v e1) U
  cases x with
  | true => exact h2
  | false => exact h2
end Lp

namespace Lp
open PySem PySem.Spec L2 PyProof.Rows HT
set_option autoImplicit false
/-! ### t[::-1] -/
section
variable {prog : Program} {w : World} {A : Around} {E : Value → Shared → Prop} {s : Shared}
theorem sliceApplied_rev {sl : Addr} {vs : Value} {n : Nat} {Q : Int × Int × Nat → Shared → Prop} (hs : s.heap.IsSliceOf sl .none .none vs) (ps : IsPart vs (some (-1)))
    (h : Q ((n : Int) - 1, -1, n) s) : wpAny (model prog w) A (Builtin.Slice.sliceApplied (.ref sl) (pure (n : Int))) Q E s := by
  obtain ⟨os, hos, hcs, hds⟩ := id hs
  unfold Builtin.Slice.sliceApplied Builtin.Slice.sliceFields
  refine wpAny_bind (wpAny_bind (wpAny_field hos hds (x := .none) rfl (wpAny_bind (wpAny_field hos hds (x := .none) rfl (wpAny_bind (wpAny_field hos hds (x := vs) rfl (wpAny_pure ?_)))))))
  refine wpAny_bind (slicePart_ ps ?_)
  show wpAny _ _ (if ((-1 : Int) == 0) = true then _ else _) _ _ s
  rw [if_neg (by decide)]
  refine wpAny_bind (slicePart_none (wpAny_bind (slicePart_none (wpAny_bind (wpAny_pure ?_)))))
  show wpAny _ _ (match Builtin.Slice.sliceAdjust none none (-1) (n : Int) with | (lo, hi) => pure (lo, (-1 : Int), Builtin.Slice.slicePlaces lo hi (-1))) _ _ s
  have e1 : Builtin.Slice.sliceAdjust none none (-1) (n : Int) = ((n : Int) - 1, -1) := by
    unfold Builtin.Slice.sliceAdjust
    simp
  have e2 : Builtin.Slice.slicePlaces ((n : Int) - 1) (-1) (-1) = n := by
    unfold Builtin.Slice.slicePlaces
    simp
    omega
  rw [e1]
  show wpAny _ _ (pure ((n : Int) - 1, (-1 : Int), Builtin.Slice.slicePlaces ((n : Int) - 1) (-1) (-1))) _ _ s
  rw [e2]
  exact wpAny_pure h
theorem pick_rev (xs : Array Value) : ((List.range xs.size).filterMap fun (m : Nat) => xs[(((xs.size : Int) - 1) + (m : Int) * (-1)).toNat]?).toArray = xs.toList.reverse.toArray := by
  congr 1
  have g : ∀ l : List Nat, (∀ m ∈ l, m < xs.size) → l.filterMap (fun (m : Nat) => xs[(((xs.size : Int) - 1) + (m : Int) * (-1)).toNat]?) = l.map fun m => xs.toList.reverse.getD m .none := by
    intro l
    induction l with
    | nil => intro _; rfl
    | cons m l ih =>
      intro h
      have hm' := h m (List.mem_cons_self ..)
      have e1 : (((xs.size : Int) - 1) + (m : Int) * (-1)).toNat = xs.size - 1 - m := by omega
      have hl : xs.size - 1 - m < xs.toList.length := by rw [Array.length_toList]; omega
      have e2 : xs[xs.size - 1 - m]? = some (xs.toList.reverse.getD m .none) := by
        rw [List.getD_eq_getElem?_getD, List.getElem?_reverse (by simpa using hm'), Array.length_toList, ← Array.getElem?_toList, List.getElem?_eq_getElem hl]; rfl
      rw [List.filterMap_cons, List.map_cons, e1, e2]
      simp only
      rw [ih fun k hk => h k (List.mem_cons_of_mem _ hk)]
  have e := g (List.range xs.size) fun m hm => List.mem_range.mp hm
  rw [e]
  refine List.ext_getElem (by simp) fun i h1 h2 => ?_
  rw [List.getElem_map, List.getElem_range, List.getD_eq_getElem?_getD, List.getElem?_eq_getElem h2]; rfl
theorem getItem_tuple_rev {t sl : Addr} {items : Array Value} {vs : Value} {Q : Value → Shared → Prop} (ht : IsTup s.heap t items) (hs : s.heap.IsSliceOf sl .none .none vs) (ps : IsPart vs (some (-1)))
    (h : Q (.ref s.heap.objs.size) { s with heap := s.heap.push { cls := .type "tuple", data := .seq items.toList.reverse.toArray } })
    (hsz : items.size ≤ sizeLine) : wpAny (model prog w) A (getItem (.ref t) (.ref sl)) Q E s := by
  have hrev : sizeOk (.seq items.toList.reverse.toArray) := by
    show items.toList.reverse.toArray.size ≤ sizeLine
    rw [List.size_toArray, List.length_reverse, Array.length_toList]
    exact hsz
  obtain ⟨os, hos, hcs, hds⟩ := id hs
  have hTs : s.TypeIs (.ref sl) "slice" := ⟨os, hos, hcs⟩
  unfold getItem
  try with_reducible refine wpAny_holding ?_
  first | refine wpAny_bind (wpAny_pure ?_) | skip
  refine wpAny_bind (wpAny_sequenceKey ht.typeIs (by decide) ?_)
  refine wpAny_bind (wpAny_callSpecial?_slot (name := Str.ofString "__getitem__") ht.typeIs PyProof.Rows.slot_tuple_getitem
    (wpAny_call_entry PyProof.Rows.slot_tuple_getitem ht.typeIs entry_tuple_getitem ?_ (args_tuple_getitem _ _)))
  show wpAny _ _ (Builtin.Tuple.tupleItemsOf (.ref t) >>= _) _ _ s
  refine wpAny_bind (tupleItemsOf_ ht ?_)
  refine wpAny_bind (wpAny_typeOf hTs ?_)
  rw [if_pos (by decide)]
  refine wpAny_bind (sliceApplied_rev hs ps ?_)
  have hno : ¬ ((((items.size : Int) - 1) == 0 && (-1 : Int) == 1 && items.size == items.size) = true) := by
    intro q
    rw [Bool.and_eq_true, Bool.and_eq_true] at q
    exact absurd q.1.2 (by decide)
  show wpAny _ _ (if (((items.size : Int) - 1) == 0 && (-1 : Int) == 1 && items.size == items.size) = true then _ else _) _ _ s
  rw [if_neg hno, pick_rev]
  first
    | exact wpAny_bind (m := Builtin.Tuple.tupleExact _) (wpAny_newObj_type (wpAny_pure ⟨_, rfl, wpAny_pure h⟩) hrev)
    | exact wpAny_bind (m := Builtin.Tuple.tupleExact _) (wpAny_newObj_type (wpAny_bind (wpAny_pure (wpAny_pure ⟨_, rfl, wpAny_pure h⟩))) hrev)
    | exact wpAny_bind (wpAny_bind (m := Builtin.Tuple.tupleExact _) (wpAny_newObj_type (wpAny_pure (wpAny_pure ⟨_, rfl, wpAny_pure h⟩)) hrev))
    | exact wpAny_bind (wpAny_bind (m := Builtin.Tuple.tupleExact _) (wpAny_newObj_type (wpAny_pure ⟨_, rfl, wpAny_pure h⟩) hrev))
end
section
variable {ax : Ax} {X : Cx} {K : PySem.W.Frag} {a e : Expr} {pos : Pos} {f : M D} {te : TE}
def tRevX (K : PySem.W.Frag) (te : TE) : TE := fun σ H Q => te σ H fun x H1 => ∃ a xs, x = .ref a ∧ ((SqL K H1 a xs ∧ ∀ p, H1 p = none → Q (.ref p) (upd H1 p (.lst xs.reverse))) ∨ (SqT K H1 a xs ∧ ∀ p, H1 p = none → Q (.ref p) (upd H1 p (.tup xs.reverse))))
theorem pe_revX {k : Nat} {p1 p2 p3 pos : Pos} (he : PE X e te) : PE X (.Subscript e (.Slice none none (some (.UnaryOp .USub (.Constant (.int 1) k p1) p2)) p3) pos) (tRevX X.K te) := by
  refine ⟨fun pins s σ H Q I h => ?_⟩
  refine Subscript_ (thn (he.run pins s σ H _ I h) fun v s1 ⟨x, H1, I1, r1, q1⟩ => ?_)
  obtain ⟨a, xs, ex, hx⟩ := q1
  subst ex
  cases r1
  have hst : PO X (some (.UnaryOp .USub (.Constant (.int 1) k p1) p2)) (tPart (tUn (rU fun i => .int (-i)) (tC (.int 1)))) := po_some (pe_un un_neg pe_int)
  refine wpAny_Slice (thn (po_none.run pins s1 σ H1 (fun o H2 => o = none ∧ H2 = H1) I1 ⟨rfl, rfl⟩) fun vl s2 ⟨l, H2, I2, pl, el, e2⟩ => ?_)
  subst el e2
  refine thn (po_none.run pins s2 σ H2 (fun o H3 => o = none ∧ H3 = H2) I2 ⟨rfl, rfl⟩) fun vu s3 ⟨u, H3, I3, pu, eu, e3⟩ => ?_
  subst eu e3
  refine thn (hst.run pins s3 σ H3 (fun o H4 => o = some (-1) ∧ H4 = H3) I3 ⟨1, rfl, -1, rfl, rfl, rfl⟩) fun vs s4 ⟨o, H4, I4, ps, eo, e4⟩ => ?_
  subst eo e4
  have I5 : Inv X pins σ H4 { s4 with heap := s4.heap.push { cls := .type "slice", data := .fields #[vl, vu, vs] } } := I4.kept (t' := s4.toks) fun b ob q => Heap.get?_push_of_some _ q
  show wpAny (model X.prog X.w) X.A (subscriptTail e (.Slice none none (some (.UnaryOp .USub (.Constant (.int 1) k p1) p2)) p3) (.ref a) (.ref s4.heap.objs.size)) (EP X pins σ Q) X.xe { s4 with heap := s4.heap.push { cls := .type "slice", data := .fields #[vl, vu, vs] } }
  rcases hx with ⟨hx, q⟩ | ⟨hx, q⟩
  · obtain ⟨its, r, ht, hz⟩ := I5.list hx
    have hlen := r.length
    refine tail_any (ops := [.ref a, .ref s4.heap.objs.size]) ht.isList.typeIs (PySem.slot_list_getitem.lookup) ?_ (by with_unfolding_all rfl)
    refine wpAny_getItem_list_slice ht.isList (Heap.IsSliceOf.new _ vl vu vs) pl pu ps (by decide) ?_ (by rw [List.size_toArray]; omega)
    rw [PySem.W.krv_pick]
    refine ⟨.ref _, _, I5.laid (t' := s4.toks) (o := .lst xs.reverse) (fun b ob q => Heap.get?_push_of_some _ q) (Nat.le_refl _) ?_, rfl, q _ (I5.hok.fresh (Nat.le_refl _))⟩
    exact ⟨by rw [List.length_reverse]; exact hz, _, 0, r.reverse, Heap.get?_push_size _ rfl⟩
  · obtain ⟨its, r, ht, hz⟩ := I5.tuple hx
    have hlen := r.length
    have evl : vl = .none := by cases pl; rfl
    have evu : vu = .none := by cases pu; rfl
    refine tail_any (ops := [.ref a, .ref s4.heap.objs.size]) ht.typeIs PyProof.Rows.slot_tuple_getitem.lookup ?_ (by with_unfolding_all rfl)
    refine getItem_tuple_rev ht (by rw [evl, evu]; exact Heap.IsSliceOf.new _ .none .none vs) ps ?_ (by rw [List.size_toArray]; omega)
    refine ⟨.ref _, _, I5.laid (t' := s4.toks) (o := .tup xs.reverse) (fun b ob q => Heap.get?_push_of_some _ q) (Nat.le_refl _) ?_, rfl, q _ (I5.hok.fresh (Nat.le_refl _))⟩
    exact ⟨by rw [List.length_reverse]; exact hz, _, r.reverse, IsTup.new _ _⟩
def mRevX (f : M D) : M Sl := fun e => (f e).bind fun d e => match d with
  | .list ds => .ok (.own ds.reverse) e
  | .tuple ds => .ok (.dat (.tuple ds.reverse)) e
  | _ => .stuck
theorem so_revX (hf : SD K ax te f) : SO K ax (tRevX K te) (mRevX f) := fun W B H σ env Q si gd =>
  hf W B H σ env _ si (GoodO.bind gd fun d e v B1 H1 s1 si1 r1 g1 => by
    cases r1 with
    | lst h z rs => exact ⟨_, _, rfl, .inl ⟨SqL.of (si1.same _ _ h), fun p hp => g1 _ B1 _ (fun _ _ e => e) (si1.newOwnL hp rs.reverse (by rw [List.length_reverse]; exact z))⟩⟩
    | tup h z rs =>
      rename_i vs ds
      refine ⟨_, _, rfl, .inr ⟨Same.sqT si1.same h, fun p hp => ?_⟩⟩
      have n := si1.newB (o := .tup vs.reverse) hp
      exact g1 _ _ _ n.2 (n.1.dat (.tup (SqT.of upd_same) (by rw [List.length_reverse]; exact z) (rs.reverse.mono n.2)))
    | _ => exact g1.elim)
theorem mo_revX {p1 p2 p3 : Pos} {k : Nat} (h : MD ax X a f) : MO ax X (.Subscript a (.Slice none none (some (.UnaryOp .USub (.Constant (.int 1) k p1) p2)) p3) pos) (mRevX f) := let ⟨_, p, s⟩ := h; ⟨_, pe_revX p, so_revX s⟩
theorem i_revX {T : Sl → Env' → Prop} {e : Env'} {ds : List D} (q : Wp (f e) fun d e => d = .tuple ds ∧ T (.dat (.tuple ds.reverse)) e) : Wp (mRevX f e) T := by
  obtain ⟨d, e1, h1, rfl, h2⟩ := q.ex
  unfold mRevX
  rw [h1]
  exact wp_ok.mpr h2
end
end Lp

namespace Lp
open PySem PySem.Spec L2
/-! ### what is told of rows of ints tells them -/
def cutJ : List (List Nat) → List Nat
  | [] => [41]
  | [t] => t ++ 41 :: []
  | t :: r => t ++ 44 :: 32 :: cutJ r
def cutT : List (List Nat) → List Nat
  | [] => [41]
  | [t] => t ++ 44 :: [41]
  | t :: r => t ++ 44 :: 32 :: cutJ r
def Fr (t : List Nat) : Prop := 41 ∉ t ∧ 44 ∉ t
theorem cut_eq : ∀ {a b : List Nat} {x y : Nat} {p q : List Nat}, Fr a → Fr b → (x = 41 ∨ x = 44) → (y = 41 ∨ y = 44) → a ++ x :: p = b ++ y :: q → a = b ∧ x = y ∧ p = q
  | [], [], x, y, p, q, _, _, _, _, h => by
    rw [List.nil_append, List.nil_append, List.cons.injEq] at h
    exact ⟨rfl, h⟩
  | [], c :: b, x, y, p, q, _, hb, hx, _, h => by
    rw [List.nil_append, List.cons_append, List.cons.injEq] at h
    obtain ⟨rfl, _⟩ := h
    rcases hx with rfl | rfl
    · exact absurd (List.mem_cons_self ..) hb.1
    · exact absurd (List.mem_cons_self ..) hb.2
  | c :: a, [], x, y, p, q, ha, _, _, hy, h => by
    rw [List.nil_append, List.cons_append, List.cons.injEq] at h
    obtain ⟨rfl, _⟩ := h
    rcases hy with rfl | rfl
    · exact absurd (List.mem_cons_self ..) ha.1
    · exact absurd (List.mem_cons_self ..) ha.2
  | c :: a, d :: b, x, y, p, q, ha, hb, hx, hy, h => by
    rw [List.cons_append, List.cons_append, List.cons.injEq] at h
    obtain ⟨rfl, h⟩ := h
    obtain ⟨rfl, h2⟩ := cut_eq ⟨fun z => ha.1 (List.mem_cons_of_mem _ z), fun z => ha.2 (List.mem_cons_of_mem _ z)⟩ ⟨fun z => hb.1 (List.mem_cons_of_mem _ z), fun z => hb.2 (List.mem_cons_of_mem _ z)⟩ hx hy h
    exact ⟨rfl, h2⟩
theorem cutJ_eq : ∀ {ts us : List (List Nat)}, ts ≠ [] → us ≠ [] → (∀ t ∈ ts, Fr t) → (∀ t ∈ us, Fr t) → cutJ ts = cutJ us → ts = us
  | [], _, h, _, _, _, _ => absurd rfl h
  | _, [], _, h, _, _, _ => absurd rfl h
  | [t], [u], _, _, ht, hu, h => by rw [(cut_eq (ht t (by simp)) (hu u (by simp)) (.inl rfl) (.inl rfl) h).1]
  | [t], u :: v :: r, _, _, ht, hu, h => by
    have := (cut_eq (ht t (by simp)) (hu u (by simp)) (.inl rfl) (.inr rfl) h).2.1
    cases this
  | t :: v :: r, [u], _, _, ht, hu, h => by
    have := (cut_eq (ht t (by simp)) (hu u (by simp)) (.inr rfl) (.inl rfl) h).2.1
    cases this
  | t :: v :: r, u :: w :: q, _, _, ht, hu, h => by
    obtain ⟨rfl, _, h2⟩ := cut_eq (ht t (by simp)) (hu u (by simp)) (.inr rfl) (.inr rfl) h
    have h3 : cutJ (v :: r) = cutJ (w :: q) := by simpa using h2
    rw [cutJ_eq (by simp) (by simp) (fun x hx => ht x (List.mem_cons_of_mem _ hx)) (fun x hx => hu x (List.mem_cons_of_mem _ hx)) h3]
theorem cutJ_head : ∀ {r : List (List Nat)}, r ≠ [] → (∀ t ∈ r, Fr t) → True := fun _ _ => trivial
theorem cutT_eq : ∀ {ts us : List (List Nat)}, (∀ t ∈ ts, Fr t) → (∀ t ∈ us, Fr t) → cutT ts = cutT us → ts = us
  | [], [], _, _, _ => rfl
  | [], [u], _, hu, h => by
    have := (cut_eq (a := []) (p := []) ⟨by simp, by simp⟩ (hu u (by simp)) (.inl rfl) (.inr rfl) h).2.1
    cases this
  | [], u :: v :: r, _, hu, h => by
    have := (cut_eq (a := []) (p := []) ⟨by simp, by simp⟩ (hu u (by simp)) (.inl rfl) (.inr rfl) h).2.1
    cases this
  | [t], [], ht, _, h => by
    have := (cut_eq (b := []) (q := []) (ht t (by simp)) ⟨by simp, by simp⟩ (.inr rfl) (.inl rfl) h).2.1
    cases this
  | t :: v :: r, [], ht, _, h => by
    have := (cut_eq (b := []) (q := []) (ht t (by simp)) ⟨by simp, by simp⟩ (.inr rfl) (.inl rfl) h).2.1
    cases this
  | [t], [u], ht, hu, h => by rw [(cut_eq (ht t (by simp)) (hu u (by simp)) (.inr rfl) (.inr rfl) h).1]
  | [t], u :: v :: r, ht, hu, h => by
    have := (cut_eq (ht t (by simp)) (hu u (by simp)) (.inr rfl) (.inr rfl) h).2.2
    cases this
  | t :: v :: r, [u], ht, hu, h => by
    have := (cut_eq (ht t (by simp)) (hu u (by simp)) (.inr rfl) (.inr rfl) h).2.2
    cases this
  | t :: v :: r, u :: w :: q, ht, hu, h => by
    obtain ⟨rfl, _, h2⟩ := cut_eq (ht t (by simp)) (hu u (by simp)) (.inr rfl) (.inr rfl) h
    have h3 : cutJ (v :: r) = cutJ (w :: q) := by simpa using h2
    rw [cutJ_eq (by simp) (by simp) (fun x hx => ht x (List.mem_cons_of_mem _ hx)) (fun x hx => hu x (List.mem_cons_of_mem _ hx)) h3]
def cp (x : Str) : List Nat := x.cps.toList
theorem cp_append (x y : Str) : cp (x ++ y) = cp x ++ cp y := by
  show (x.cps ++ y.cps).toList = _
  rw [Array.toList_append]; rfl
theorem cp_inj {x y : Str} (h : cp x = cp y) : x = y := by
  cases x; cases y
  congr 1
  exact Array.toList_inj.mp h
theorem cp_join : ∀ ts : List Str, ts ≠ [] → cp (Str.join ", " ts) ++ [41] = cutJ (ts.map cp)
  | [], h => absurd rfl h
  | [t], _ => rfl
  | t :: u :: r, _ => by
    show cp (t ++ ((", " : String) : Str) ++ Str.join ", " (u :: r)) ++ [41] = cp t ++ 44 :: 32 :: cutJ ((u :: r).map cp)
    rw [← cp_join (u :: r) (by simp), cp_append, cp_append, List.append_assoc, List.append_assoc]
    rfl
theorem cp_tuple (ts : List Str) : cp (tupleText ts) = 40 :: cutT (ts.map cp) := by
  match ts with
  | [] => rfl
  | [t] =>
    show cp (("(" : Str) ++ t ++ ((",)" : String) : Str)) = _
    rw [cp_append, cp_append]
    show [40] ++ cp t ++ [44, 41] = 40 :: (cp t ++ 44 :: [41])
    simp
  | t :: u :: r =>
    have e : (if (t :: u :: r).length == 1 then ",)" else ")" : String) = ")" := by simp
    show cp (("(" : Str) ++ Str.join ", " (t :: u :: r) ++ ((if (t :: u :: r).length == 1 then ",)" else ")" : String) : Str)) = _
    rw [e, cp_append, cp_append, List.append_assoc]
    have := cp_join (t :: u :: r) (by simp)
    show [40] ++ (cp (Str.join ", " (t :: u :: r)) ++ [41]) = _
    rw [this]; rfl
theorem mem_cutJ {c : Nat} : ∀ {ts : List (List Nat)} {t : List Nat}, t ∈ ts → c ∈ t → c ∈ cutJ ts
  | [t], u, h, hc => by rw [List.mem_singleton.mp h] at hc; exact List.mem_append_left _ hc
  | t :: v :: r, u, h, hc => by
    rcases List.mem_cons.mp h with rfl | h
    · exact List.mem_append_left _ hc
    · exact List.mem_append_right _ (List.mem_cons_of_mem _ (List.mem_cons_of_mem _ (mem_cutJ h hc)))
theorem mem_cutT {c : Nat} : ∀ {ts : List (List Nat)} {t : List Nat}, t ∈ ts → c ∈ t → c ∈ cutT ts
  | [t], u, h, hc => by rw [List.mem_singleton.mp h] at hc; exact List.mem_append_left _ hc
  | t :: v :: r, u, h, hc => by
    rcases List.mem_cons.mp h with rfl | h
    · exact List.mem_append_left _ hc
    · exact List.mem_append_right _ (List.mem_cons_of_mem _ (List.mem_cons_of_mem _ (mem_cutJ h hc)))
theorem of_mem_cutJ {c : Nat} : ∀ {ts : List (List Nat)}, c ∈ cutJ ts → c = 41 ∨ c = 44 ∨ c = 32 ∨ ∃ t ∈ ts, c ∈ t
  | [], h => .inl (List.mem_singleton.mp h)
  | [t], h => by
    rcases List.mem_append.mp h with h | h
    · exact .inr (.inr (.inr ⟨t, by simp, h⟩))
    · exact .inl (List.mem_singleton.mp h)
  | t :: v :: r, h => by
    rcases List.mem_append.mp h with h | h
    · exact .inr (.inr (.inr ⟨t, by simp, h⟩))
    · rcases List.mem_cons.mp h with h | h
      · exact .inr (.inl h)
      · rcases List.mem_cons.mp h with h | h
        · exact .inr (.inr (.inl h))
        · rcases of_mem_cutJ h with h | h | h | ⟨u, hu, h⟩
          · exact .inl h
          · exact .inr (.inl h)
          · exact .inr (.inr (.inl h))
          · exact .inr (.inr (.inr ⟨u, List.mem_cons_of_mem _ hu, h⟩))
theorem of_mem_cutT {c : Nat} : ∀ {ts : List (List Nat)}, c ∈ cutT ts → c = 41 ∨ c = 44 ∨ c = 32 ∨ ∃ t ∈ ts, c ∈ t
  | [], h => .inl (List.mem_singleton.mp h)
  | [t], h => by
    rcases List.mem_append.mp h with h | h
    · exact .inr (.inr (.inr ⟨t, by simp, h⟩))
    · rcases List.mem_cons.mp h with h | h
      · exact .inr (.inl h)
      · exact .inl (List.mem_singleton.mp h)
  | t :: v :: r, h => by
    rcases List.mem_append.mp h with h | h
    · exact .inr (.inr (.inr ⟨t, by simp, h⟩))
    · rcases List.mem_cons.mp h with h | h
      · exact .inr (.inl h)
      · rcases List.mem_cons.mp h with h | h
        · exact .inr (.inr (.inl h))
        · rcases of_mem_cutJ h with h | h | h | ⟨u, hu, h⟩
          · exact .inl h
          · exact .inr (.inl h)
          · exact .inr (.inr (.inl h))
          · exact .inr (.inr (.inr ⟨u, List.mem_cons_of_mem _ hu, h⟩))
theorem shownAll_map : ∀ xs : List D, PyData.shownAll xs = xs.map PyData.shown
  | [] => rfl
  | x :: xs => by
    show PyData.shown x :: PyData.shownAll xs = _
    rw [shownAll_map xs]; rfl
def tx (d : D) : List Nat := cp (PyData.shown d)
theorem tx_tuple (xs : List D) : tx (.tuple xs) = 40 :: cutT (xs.map tx) := by
  show cp (tupleText (PyData.shownAll xs)) = _
  rw [cp_tuple, shownAll_map, List.map_map]; rfl
theorem tx_int_free (k : Nat) (hk : k ≠ 45 ∧ (k < 48 ∨ 57 < k)) (i : Int) : k ∉ tx (.int i) := PyProof.Rows.int_text_free' k hk i
theorem int_fr (i : Int) : Fr (tx (.int i)) := ⟨tx_int_free 41 ⟨by decide, by decide⟩ i, tx_int_free 44 ⟨by decide, by decide⟩ i⟩
/-- small ints are told apart -/
def smalls : List Int := (List.range 128).map fun i : Nat => (i : Int) - 20
theorem smalls_nodup : (smalls.map fun i => tx (.int i)).Nodup := by decide +kernel
theorem mem_smalls {i : Int} (h0 : -20 ≤ i) (h1 : i < 108) : i ∈ smalls := List.mem_map.mpr ⟨(i + 20).toNat, List.mem_range.mpr (by omega), by omega⟩
theorem tx_int_inj {i j : Int} (hi : -20 ≤ i ∧ i < 108) (hj : -20 ≤ j ∧ j < 108) (h : tx (.int i) = tx (.int j)) : i = j := by
  have hn := smalls_nodup
  obtain ⟨a, ha, ea⟩ := List.getElem_of_mem (mem_smalls hi.1 hi.2)
  obtain ⟨b, hb, eb⟩ := List.getElem_of_mem (mem_smalls hj.1 hj.2)
  have : a = b := by
    refine (List.getElem_inj (h₀ := by simpa using ha) (h₁ := by simpa using hb) hn).mp ?_
    rw [List.getElem_map, List.getElem_map, ea, eb, h]
  subst this
  rw [← ea, ← eb]
/-- a char that no row of ints shows -/
def Odd (x : D) : Prop := ∃ c ∈ tx x, c ≠ 41 ∧ c ≠ 44 ∧ c ≠ 32 ∧ c ≠ 45 ∧ (c < 48 ∨ 57 < c)
def Small (x : D) : Prop := ∃ i : Int, x = .int i ∧ -20 ≤ i ∧ i < 108
theorem tuple_told {xs : List D} {ks : List Int} (hx : ∀ x ∈ xs, Small x ∨ Odd x) (hk : ∀ k ∈ ks, -20 ≤ k ∧ k < 108) (h : tx (.tuple xs) = tx (tI ks)) : PyData.tuple xs = tI ks := by
  unfold tI at h
  rw [tx_tuple, tx_tuple, List.cons.injEq] at h
  have h := h.2
  have hs : ∀ x ∈ xs, Small x := fun x hxm => by
    rcases hx x hxm with z | ⟨c, hc, c1, c2, c3, c4, c5⟩
    · exact z
    · have m : c ∈ cutT (xs.map tx) := mem_cutT (List.mem_map.mpr ⟨x, hxm, rfl⟩) hc
      rw [h] at m
      rcases of_mem_cutT m with z | z | z | ⟨t, ht, z⟩
      · exact absurd z c1
      · exact absurd z c2
      · exact absurd z c3
      · obtain ⟨y, hy, rfl⟩ := List.mem_map.mp ht
        obtain ⟨k, _, rfl⟩ := List.mem_map.mp hy
        exact absurd z (tx_int_free c ⟨c4, c5⟩ k)
  have e := cutT_eq (fun t ht => by
    obtain ⟨x, hxm, rfl⟩ := List.mem_map.mp ht
    obtain ⟨i, rfl, _⟩ := hs x hxm
    exact int_fr i) (fun t ht => by
    obtain ⟨y, hy, rfl⟩ := List.mem_map.mp ht
    obtain ⟨k, _, rfl⟩ := List.mem_map.mp hy
    exact int_fr k) h
  have g : ∀ (xs : List D) (ks : List Int), (∀ x ∈ xs, Small x) → (∀ k ∈ ks, -20 ≤ k ∧ k < 108) → xs.map tx = (ks.map PyData.int).map tx → xs = ks.map PyData.int := by
    intro xs
    induction xs with
    | nil => intro ks _ _ e; cases ks with
      | nil => rfl
      | cons _ _ => cases e
    | cons x xs ih => intro ks hs hk e; cases ks with
      | nil => cases e
      | cons k ks =>
        rw [List.map_cons, List.map_cons, List.map_cons, List.cons.injEq] at e
        obtain ⟨i, rfl, i0, i1⟩ := hs x (List.mem_cons_self ..)
        rw [List.map_cons, tx_int_inj ⟨i0, i1⟩ (hk k (List.mem_cons_self ..)) e.1, ih ks (fun y hy => hs y (List.mem_cons_of_mem _ hy)) (fun y hy => hk y (List.mem_cons_of_mem _ hy)) e.2]
  unfold tI
  rw [g xs ks hs hk e]
theorem odd_none : Odd .none := ⟨78, by decide, by decide⟩
theorem odd_true : Odd (.bool true) := ⟨84, by decide, by decide⟩
theorem odd_str : Odd (.str (PySem.Str.ofString "1")) := ⟨39, by decide +kernel, by decide⟩
theorem odd_nil : Odd (.list []) := ⟨91, by decide, by decide⟩
theorem odd_tuple (xs : List D) : Odd (.tuple xs) := ⟨40, by rw [tx_tuple]; exact List.mem_cons_self .., by decide⟩
end Lp

/-! ### sorted, where the first is the empty tuple -/
namespace LpSort
open PySem PySem.Calls PyProof.Rows PySem.W PySem.SeqAt
section
variable {prog : Program} {w : World} {A : Around} {E : Value → Shared → Prop} {s : Shared}
theorem call_tuple_lt {Q : Value → Shared → Prop} {l b : Addr} {items items2 : Array Value} {e r : Nat → Bool} (hl : s.heap.IsTuple l items) (hb : s.heap.IsTuple b items2)
    (he : ∀ j (h1 : j < items.size) (h2 : j < items2.size), EqAt A.in1 s items[j] items2[j] (e j)) (hr : ∀ j (h1 : j < items.size) (h2 : j < items2.size), e j = false → RcLt A.in1 s items[j] items2[j] (r j))
    (h : Q (.bool (firstLt e r (decide (items.size < items2.size)) (List.range (min items.size items2.size)))) s) : wpAny (model prog w) A (call (.builtin "tuple.__lt__") [.ref l, .ref b]) Q E s := by
  obtain ⟨⟨cls, dd, data, sl⟩, ho, hc, n, hd⟩ := id hl
  obtain ⟨⟨cls2, dd2, data2, sl2⟩, ho2, hc2, n2, hd2⟩ := id hb
  simp only at hc hd hc2 hd2
  subst hc hd hc2 hd2
  exact call_meets F.slot_tuple_lt ⟨_, ho, rfl⟩ F.entry_tuple_lt (F.args_tuple_lt_2 _ _) (tuple_ltAt l b items items2 n n2 dd dd2 sl sl2 e r) ⟨ho, ho2, he, hr, h⟩
theorem oneLt_tup {xs ys : List PyData} {a b : Value} {as bs : List Addr} {Q : Bool → Shared → Prop} (ra : Reads s.heap a (.tuple xs) as) (rb : Reads s.heap b (.tuple ys) bs) (h : alike (.tuple xs) (.tuple ys) = true)
    (hu : A.units + min (PyData.tuple xs).depth (PyData.tuple ys).depth < cLine) (hq : Q (dataLt (.tuple xs) (.tuple ys)) s) : wpAny (model prog w) A (oneLt' true a b) Q E s := by
  have hal : alikeAll xs ys = true := by simpa [alike] using h
  cases ra with
  | @tuple l o vs n _ as₁ h1 h2 h3 h4 =>
    cases rb with
    | @tuple l' o' vs' n' _ bs₁ k1 k2 k3 k4 =>
      have n1 : vs.size = xs.length := by simpa using ReadsAll.length _ _ _ h4
      have n2 : vs'.size = ys.length := by simpa using ReadsAll.length _ _ _ k4
      rw [dataLt_tuple, ← firstLt_toks xs ys hal, ← n1, ← n2] at hq
      rw [oneLt'_eq]
      simp only [if_true]
      refine wpAny_bind (wpAny_cRoomFor (room_here hu) ?_)
      refine wpAny_bind (wpAny_callSpecialIfBound?_slot (T := "tuple") ⟨_, h1, h2⟩ F.slot_tuple_lt (call_tuple_lt (e := pairEq xs ys) (r := fun j => dataLt (xs.getD j .none) (ys.getD j .none)) ⟨_, h1, h2, _, h3⟩ ⟨_, k1, k2, _, k3⟩ (fun j j1 j2 => ?_) (fun j j1 j2 hj => ?_) ?_))
      · have := eqAt_alikeAll xs ys A.in1 s vs.toList vs'.toList _ _ h4 k4 hal (room_in hu) j (by simpa using j1) (by simpa using j2)
        simpa using this
      · have := rcLt_alikeAll xs ys A.in1 s vs.toList vs'.toList _ _ h4 k4 hal (room_in hu) j (by simpa using j1) (by simpa using j2) hj
        simpa using this
      · exact wpAny_truthy_bool hq
end
section
variable {M : Model} {A : Around} {E : Value → Shared → Prop} {s : Shared}
def IsTu (h : Heap) (v : Value) (xs : Array Value) : Prop := ∃ a o n, v = .ref a ∧ h.get? a = some o ∧ o.cls = .type "tuple" ∧ o.data = .seq xs n
theorem first_at {v : Value} {xs : Array Value} {Q : Option Value → Shared → Prop} (t : IsTu s.heap v xs) (h : Q xs[0]? s) : wpAny M A (firstOfTuple' v) Q E s := by
  obtain ⟨a, o, n, rfl, ho, hc, hd⟩ := t
  rw [kas_first_eq]
  refine wpAny_bind (Looks.here (show Looks M s.heap (typeOf (.ref a)) o.cls from (Looks.ld ho).andThen .now) ?_)
  rw [hc, if_neg (by first | decide | simp)]
  exact wpAny_bind (listItems_at ho hd (wpAny_pure h))
theorem firsts_at : ∀ (vs : List Value) {Q : List (Option Value) → Shared → Prop}, (∀ v ∈ vs, ∃ xs, IsTu s.heap v xs) → (∀ bs, Q bs s) → wpAny M A (vs.mapM firstOfTuple') Q E s
  | [], _, _, h => by rw [List.mapM_nil]; exact wpAny_pure (h _)
  | v :: vs, Q, t, h => by
    rw [List.mapM_cons]
    obtain ⟨xs, hx⟩ := t v (List.mem_cons_self ..)
    exact wpAny_bind (first_at hx (wpAny_bind (firsts_at vs (Q := fun bs s' => wpAny M A (pure (xs[0]? :: bs)) Q E s') (fun u hu => t u (List.mem_cons_of_mem _ hu)) fun bs => wpAny_pure (h _))))
theorem kindE {v₁ v₂ : Value} {rest : List Value} {Q : SortKind → Shared → Prop} (h1 : IsTu s.heap v₁ #[]) (ht : ∀ v ∈ v₂ :: rest, ∃ xs, IsTu s.heap v xs) (h : Q oneType' s) : wpAny M A (keyKind' (v₁ :: v₂ :: rest).toArray) Q E s := by
  rw [kat_kind_eq, List.mapM_toArray, map_eq_pure_bind, List.mapM_cons]
  refine wpAny_bind (wpAny_bind (wpAny_bind (first_at h1 (wpAny_bind (firsts_at (v₂ :: rest) ht fun bs => wpAny_pure (wpAny_pure ?_))))))
  rw [if_neg (by simp), if_neg (by simp)]
  rw [oneTypeOnly'_eq, List.mapM_toArray, map_eq_pure_bind]
  refine wpAny_bind (wpAny_bind (wpAny_bind (kas_mapM (r := Value.type "tuple") _ (fun v hv Q' hq => ?_) (wpAny_pure ?_))))
  · have hv' : ∃ xs, IsTu s.heap v xs := by
      rcases List.mem_cons.mp hv with rfl | hv
      · exact ⟨_, h1⟩
      · exact ht v hv
    obtain ⟨xs, a, o, n, rfl, ho, hc, hd⟩ := hv'
    have : Looks M s.heap (typeOf (.ref a)) o.cls := (Looks.ld ho).andThen .now
    rw [hc] at this
    exact this.here hq
  · have hall : ((List.map (fun _ => Value.type "tuple") (v₁ :: v₂ :: rest)).toArray.all fun x => x == Value.type "tuple") = true := by
      simp only [List.all_toArray, List.all_map, List.all_eq_true]
      intro _ _
      exact beq_self_eq_true _
    have h0 : (List.map (fun _ => Value.type "tuple") (v₁ :: v₂ :: rest)).toArray[0]? = some (Value.type "tuple") := by simp
    rw [h0]
    simp only [hall, if_true]
    exact wpAny_pure (wpAny_pure h)
end
section
variable {prog : Program} {w : World} {A : Around} {s : Shared}
theorem isTu_reads {h : Heap} {v : Value} {xs : List PyData} {as : List Addr} (r : Reads h v (.tuple xs) as) : ∃ vs, IsTu h v vs ∧ (xs = [] → vs = #[]) := by
  cases r with
  | @tuple a o vs n _ _ h1 h2 h3 h4 =>
    refine ⟨vs, ⟨a, o, n, rfl, h1, h2, h3⟩, fun e => ?_⟩
    subst e
    have := ReadsAll.length _ _ _ h4
    exact Array.toList_inj.mp (List.length_eq_zero_iff.mp (by simpa using this))
theorem sortsAt {vs : List Value} {ds : List PyData} (e : EachIs (fun v d => ∃ as, Reads s.heap v d as) vs ds) (hal : AllAlike ds) (ht : ∀ d ∈ ds, ∃ xs, d = .tuple xs) (h0 : ∃ r, ds = .tuple [] :: r) (hu : ∀ d, d ∈ ds → A.units + d.depth < cLine) : SortsAt prog w A s (dataKind s.heap ds) vs := by
  have room : ∀ {d d' : PyData}, d ∈ ds → A.units + min d.depth d'.depth < cLine := fun {d d'} hd => Nat.lt_of_le_of_lt (Nat.add_le_add_left (Nat.min_le_left _ _) _) (hu d hd)
  refine ⟨fun v hv => ?_, oneType', ?_, fun h2 E Q hq => ?_⟩
  · obtain ⟨d, hd, as, r⟩ := e.left v hv
    exact ⟨_, dataKind_some hal hd r⟩
  · intro E x y a b Q ha hb hq
    obtain ⟨d, as, hd, ra, rfl⟩ := dataKind_inv ha
    obtain ⟨d', as', hd', rb, rfl⟩ := dataKind_inv hb
    rw [keyLt'_oneType]
    have hdd := hal d hd d' hd'
    have hr := room (d' := d') hd
    obtain ⟨xs, rfl⟩ := ht d hd
    obtain ⟨ys, rfl⟩ := ht d' hd'
    exact oneLt_tup ra rb hdd hr hq
  · obtain ⟨r, rfl⟩ := h0
    cases e with
    | cons e1 e2 =>
      rename_i v₁ vs
      cases vs with
      | nil => simp at h2
      | cons v₂ rest =>
        obtain ⟨as, r1⟩ := e1
        obtain ⟨us, t1, t2⟩ := isTu_reads r1
        rw [t2 rfl] at t1
        refine kindE t1 (fun v hv => ?_) hq
        obtain ⟨d, hd, as, r⟩ := e2.left v hv
        obtain ⟨xs, rfl⟩ := ht d (List.mem_cons_of_mem _ hd)
        obtain ⟨us, t1, _⟩ := isTu_reads r
        exact ⟨us, t1⟩
theorem sorted_dataE {β : Type} {R : Value → β → Prop} {enc : β → PyData} {vs : List Value} {bs : List β} {E : Value → Shared → Prop} {l : Addr} {Q : Value → Shared → Prop} (hl : s.heap.IsList l vs.toArray) (e : EachIs R vs bs) (er : EachIs (fun v b => ∃ as, Reads s.heap v (enc b) as) vs bs) (hal : AllAlike (bs.map enc)) (ht : ∀ d ∈ bs.map enc, ∃ xs, d = .tuple xs) (h0 : ∃ r, bs.map enc = .tuple [] :: r) (hL : bs.length ≤ sizeLine)
    (hu : ∀ b, b ∈ bs → A.units + 2 + (enc b).depth < cLine) (h : ∀ out, out.length = bs.length → EachIs R out (bs.mergeSort (dataLe false enc)) → Q (.ref (s.heap.objs.size + 1)) { s with heap := sortedAll s.heap vs (List.toArray out) }) :
    wpAny (model prog w) A (call (.builtin "sorted") [.ref l]) Q E s := by
  have er' : EachIs (fun v b => ∃ as, Reads (sortingHeap (copyHeap s.heap vs) (s.heap.objs.size + 1) vs) v (enc b) as) vs bs := er.mono fun _ _ ⟨as, r⟩ => ⟨as, PyProof.Rows.Reads.keeps (fun _ _ => sorting_copy_old) r⟩
  exact sorted_vals hl (sortsAt (s := { s with heap := sortingHeap (copyHeap s.heap vs) (s.heap.objs.size + 1) vs }) (each_map (R := fun v d => ∃ as, Reads (sortingHeap (copyHeap s.heap vs) (s.heap.objs.size + 1) vs) v d as) enc er') hal ht h0 (bound_map hu)) (by rw [e.length]; exact hL)
    (h _ (by rw [sortVals_length false rfl]; exact e.length) (sortVals_data false e er' hal))
end
end LpSort
namespace Lp
open PySem PySem.Spec L2
set_option autoImplicit false
section
variable {ax : Ax} {X : Cx} {K : PySem.W.Frag} {W : Wd} {B B' H H' : Hp} {σ : L2.St} {env : Env'} {pos : Pos}
def isT : D → Bool
  | .tuple _ => true
  | _ => false
def isT0 : List D → Bool
  | .tuple [] :: _ => true
  | _ => false
def sortOkE (ds : List D) : Bool := alikeB ds && PyData.canLayAll0 ds && decide (PyData.depthAll ds ≤ 60) && decide (ds.length ≤ 16777216) && (ds.all isT && isT0 ds)
def rSortE (K : PySem.W.Frag) : List V → Hp → VK → Prop := fun xs H Q => ∃ (a : Addr) (vs : List V) (ds : List D) (P : V → D → Prop), xs = [V.ref a] ∧ SqL K H a vs ∧ PySem.W.EachIs P vs ds ∧ DpAll K H vs ds ∧ sortOkE ds = true ∧
  ∀ (vs' : List V) (p : Addr), PySem.W.EachIs P vs' (sortedD ds) → H p = none → Q (.ref p) (upd H p (.lst vs'))
theorem call_sortE (hu : X.A.units + 66 < cLine) : CallR X (.builtin "sorted") (rSortE X.K) := by
  intro pins s σ H xs us Q I r h
  obtain ⟨a, vs, ds, P, rfl, hs, hP, hd, ok, q⟩ := h
  unfold sortOkE at ok
  simp only [Bool.and_eq_true, decide_eq_true_eq] at ok
  obtain ⟨⟨⟨⟨o1, o2⟩, o3⟩, o4⟩, o5, o6⟩ := ok
  obtain ⟨its, rv, hl, _⟩ := I.list hs
  rw [Vals.ref1 r]
  have hdep : ∀ d ∈ ds, d.depth ≤ PyData.depthAll ds := by
    have : ∀ (ds : List D) (d : D), d ∈ ds → d.depth ≤ PyData.depthAll ds := by
      intro ds
      induction ds with
      | nil => intro d h; cases h
      | cons x xs ih =>
        intro d h
        simp only [PyData.depthAll]
        rcases List.mem_cons.mp h with rfl | h
        · omega
        · have := ih d h; omega
    exact this ds
  refine LpSort.sorted_dataE (enc := id) hl.isList (each_rel hP rv) (each_reads I hd rv) (by rw [List.map_id]; exact (alikeB_all o1).1) (fun d hd => ?_) ?_ (line_of o4) (fun b hb => ?_) fun out hlen eo => ?_
  · rw [List.map_id] at hd
    have := List.all_eq_true.mp o5 d hd
    cases d with
    | tuple xs => exact ⟨xs, rfl⟩
    | _ => cases this
  · rw [List.map_id]
    unfold isT0 at o6
    split at o6
    · exact ⟨_, rfl⟩
    · cases o6
  · have := hdep b hb
    show X.A.units + 2 + b.depth < cLine
    omega
  · obtain ⟨vs', v1, v2⟩ := each_back eo
    obtain ⟨ep, he'⟩ := PyProof.Rows.sortedAll_at s.heap its out.toArray
    refine ⟨.ref (s.heap.objs.size + 1), upd H (s.heap.objs.size + 1) (.lst vs'), I.laid (t' := s.toks) (fun _ _ => PyProof.Rows.sortedAll_old) (Nat.le_succ _) ⟨?_, out, ep, v1, he'⟩, rfl, q vs' _ v2 (I.hok.fresh (Nat.le_succ _))⟩
    rw [v1.length, hlen]
    exact line_of o4
def sortE : List D → Option (List D)
  | [.list ds] => if sortOkE ds = true then some (sortedD ds) else none
  | _ => none
theorem fresh_sortE : FreshN K (rSortE K) sortE := fun B H xs as ds Q s r e q => by
  unfold sortE at e
  split at e
  · rename_i zs
    split at e
    · rename_i ok
      cases e
      obtain ⟨v, rfl, rv⟩ := r.one
      cases rv with
      | lst hb z rr =>
        rename_i a vs
        have o2 : PyData.canLayAll0 zs = true := by
          unfold sortOkE at ok
          simp only [Bool.and_eq_true] at ok
          exact ok.1.1.1.2
        refine ⟨a, vs, zs, Rp K B, rfl, SqL.of (s _ _ hb), rr.each, rpAll_dp (rr.mono s) o2, ok, fun vs' p hv hp => ?_⟩
        have hl : vs'.length ≤ sizeLine := by
          rw [hv.length]
          unfold sortedD
          rw [List.length_mergeSort, ← rr.length]
          exact z
        exact q vs' p B H (grow_same s) (RpAll.of_each hv) hl hp
    · cases e
  · cases e
end
/-! rows with the empty one first -/
theorem sortE_tI {xs : List (List Int)} (h : xs.length ≤ 16777215) : sortE [.list (([] :: xs).map tI)] = some ((sortI ([] :: xs)).map tI) := by
  have ok : sortOkE (([] :: xs).map tI) = true := by
    unfold sortOkE alikeB
    have d1 := lay_tIs ([] :: xs)
    simp only [Bool.and_eq_true, List.all_eq_true, decide_eq_true_eq, List.length_map]
    refine ⟨⟨⟨⟨⟨fun x hx y hy => ?_, fun x hx => ?_⟩, d1.1⟩, by omega⟩, by simp; omega⟩, fun x hx => ?_, rfl⟩
    · obtain ⟨p, _, rfl⟩ := List.mem_map.mp hx
      obtain ⟨q, _, rfl⟩ := List.mem_map.mp hy
      exact alike_tI p q
    · obtain ⟨p, _, rfl⟩ := List.mem_map.mp hx
      rfl
    · obtain ⟨p, hp, rfl⟩ := List.mem_map.mp hx
      rfl
  show (if sortOkE (([] :: xs).map tI) = true then some (sortedD (([] :: xs).map tI)) else none) = _
  rw [if_pos ok]
  unfold sortedD sortI
  rw [← List.map_mergeSort (f := tI) (r := fun a b : List Int => decide (a ≤ b)) fun a _ b _ => (dataLe_tI (fun x => x) a b).symm]
end Lp

namespace Lp
open PySem PySem.Spec L2
set_option autoImplicit false
section
variable {K : PySem.W.Frag} {ax : Ax} {W : Wd} {B B' H H' : Hp} {σ : L2.St} {env : Env'} {io : List Nat} {X : Cx} {v : V} {r : Sl} {d : D}
/-! ### [.. for .. for ..] -/
def comp2E (vs : List Nat) (t : D → Env' → Option Env') (it1 : M (List D)) (vs1 : List Nat) (t1 : D → Env' → Option Env') (f : M D) : List D → List D → M (List D)
  | [], acc, e => .ok acc e
  | x :: xs, acc, e => match t x e with
    | none => .stuck
    | some e1 => (it1 e1).quiet.bind fun ys e2 => if acc.length + ys.length ≤ 16777216 then (compE vs1 t1 mYes f ys acc (forgetL vs1 e2)).bind fun acc e3 => comp2E vs t it1 vs1 t1 f xs acc (forgetL vs e3) else .stuck
def mComp2 (vs vs1 : List Nat) (it : M (List D)) (t : D → Env' → Option Env') (it1 : M (List D)) (t1 : D → Env' → Option Env') (f : M D) : M Sl := fun e0 => (it e0).bind fun ds e =>
  if ds.length ≤ 16777216 then (comp2E vs t it1 vs1 t1 f ds [] (forgetL vs e)).bind fun acc e2 => .ok (.own acc) (restoreL vs e e2) else .stuck
abbrev midW (W : Wd) : Wd := ⟨W.B0, W.H0, W.ft, [], []⟩
theorem SlV.mid {F : List Addr} {L : Addr} {acc : List D} (h : SlV K W B H F (.ref L) (.own acc)) : SlV K (midW W) B H F (.ref L) (.own acc) := by
  obtain ⟨p, us, e, m, o, hp, rs, z⟩ := h
  exact ⟨p, us, e, m, ⟨o.nb, o.fr⟩, hp, rs, z⟩
theorem SlV.unmid {F : List Addr} {v : V} : ∀ {s : Sl}, SlV K (midW W) B H F v s → SlV K W B H F v s
  | .un, _ => trivial
  | .dat _, h => h
  | .own _, ⟨p, us, e, m, o, hp, rs, z⟩ => ⟨p, us, e, m, ⟨o.nb, o.fr⟩, hp, rs, z⟩
  | .deal _ _, ⟨p, q, e, m, n, ne, o, u, hp, hq⟩ => ⟨p, q, e, m, n, ne, ⟨o.nb, o.fr⟩, ⟨u.nb, u.fr⟩, hp, hq⟩
  | .scr _, h => h
  | .dcT _, ⟨p, L, e, m, o, hp, rs⟩ => ⟨p, L, e, m, ⟨o.nb, o.fr⟩, hp, rs⟩
  | .dcI _, ⟨p, L, e, m, o, hp, rs⟩ => ⟨p, L, e, m, ⟨o.nb, o.fr⟩, hp, rs⟩
theorem block_mid {vs : List Nat} {F : Nat → List Addr} {Fv : List Addr} {L : Addr} {acc : List D} {σ2 : L2.St} {e2 : Env'} (g : Grow W.B0 W.H0 W.ft B H) (s : Slots K W B H σ env F) (sv : SlV K W B H Fv (.ref L) (.own acc)) (hm : ∀ a ∈ Fv, Mut (H a) ∧ Ownd W B H a) (hd : ∀ i a, a ∈ F i → a ∉ Fv)
    (si : SI K (blkW B H F env.length) B' H' σ2 e2) (hw : wipe σ2 vs = wipe σ vs) : SIV K (midW W) B' H' σ2 e2 (.ref L) (.own acc) := by
  have hl : σ2.length = σ.length := by
    have := congrArg List.length hw
    rwa [wipe_length, wipe_length] at this
  have s' : Slots K (midW W) B H σ2 (List.replicate env.length .un) F := ⟨by rw [List.length_replicate, hl, s.len], (fun i hi => by cases hi), (fun i x e => .inl (List.eq_of_mem_replicate (List.mem_of_getElem? e))), fun i a ha => ⟨(s.there i a ha).1, ⟨(s.there i a ha).2.nb, (s.there i a ha).2.fr⟩⟩, s.dis⟩
  have hb : (blkW B H F (List.replicate env.length Sl.un).length) = blkW B H F env.length := by rw [List.length_replicate]
  have h := block_out (W := midW W) (vs := []) (σ := σ2) (env := List.replicate env.length .un) (e2 := e2) g s' sv.mid (fun a ha => ⟨(hm a ha).1, ⟨(hm a ha).2.nb, (hm a ha).2.fr⟩⟩) hd (by rw [hb]; exact si) rfl
  exact h
theorem block_end {vs : List Nat} {L : Addr} {acc : List D} {σ2 : L2.St} {e2 : Env'} (h : SIV K (midW W) B' H' σ2 e2 (.ref L) (.own acc)) (pin : ∀ i ∈ W.io, σ[i]? = W.σ0[i]?) (hw : wipe σ2 vs = wipe σ vs) : SIV K W B' H' σ (forgetL vs e2) (.ref L) (.own acc) := by
  obtain ⟨g, F2, Fv, s2, sv, hm, hd⟩ := h
  have hσ : ∀ j, j ∉ vs → σ2[j]? = σ[j]? := fun j hj => by rw [← wipe_out' (vs := vs) (σ := σ2) hj, hw, wipe_out' hj]
  refine ⟨g, fun j => if j ∈ vs then [] else F2 j, Fv, ⟨?_, pin, fun j x e => ?_, fun j a ha => ?_, fun i j a h1 h2 => ?_⟩, sv.unmid, fun a ha => ⟨(hm a ha).1, ⟨(hm a ha).2.nb, (hm a ha).2.fr⟩⟩, fun j a ha => ?_⟩
  · rw [forgetL_length, ← s2.len]
    have := congrArg List.length hw
    rw [wipe_length, wipe_length] at this
    exact this.symm
  · rcases forgetL_get vs e2 j x e with q | ⟨q, q2⟩
    · exact .inl q
    · rw [if_neg q, ← hσ j q]
      rcases s2.at_ j x q2 with z | ⟨v, ev, sv⟩
      · exact .inl z
      · exact .inr ⟨v, ev, sv.unmid⟩
  · try dsimp only at ha
    by_cases q : j ∈ vs
    · rw [if_pos q] at ha; simp at ha
    · rw [if_neg q] at ha
      exact ⟨(s2.there j a ha).1, ⟨(s2.there j a ha).2.nb, (s2.there j a ha).2.fr⟩⟩
  · try dsimp only at h1 h2
    by_cases q : i ∈ vs <;> by_cases q2 : j ∈ vs
    · rw [if_pos q] at h1; simp at h1
    · rw [if_pos q] at h1; simp at h1
    · rw [if_pos q2] at h2; simp at h2
    · rw [if_neg q] at h1; rw [if_neg q2] at h2; exact s2.dis i j a h1 h2
  · try dsimp only at ha
    by_cases q : j ∈ vs
    · rw [if_pos q] at ha; simp at ha
    · rw [if_neg q] at ha
      exact hd j a ha
theorem tYes_at {H : Hp} {σ : L2.St} {Q : Bool → Hp → Prop} (h : Q true H) : tYes σ H Q := h
theorem so_comp2 {wi wi1 : TI} {g g1 : TG} {te : TE} {it it1 : M (List D)} {t t1 : D → Env' → Option Env'} {f : M D} {vs vs1 : List Nat} (hi : SIt K ax wi it) (hg : SG K [] g t) (hin : GIn vs g) (hi1 : SIt K (ax0 ax) wi1 it1) (hg1 : SG K [] g1 t1) (hin1 : GIn vs1 g1) (hf : SD K (ax0 ax) te f) :
    SO K ax (tLc2 wi g tYes wi1 g1 tYes te vs vs1) (mComp2 vs vs1 it t it1 t1 f) := fun W B H σ env Q si gd =>
  hi W B H σ env _ si (GoodO.bind gd fun ds e J B1 H1 s1 si1 r1 g1' => by
    intro L hL
    by_cases hz : ds.length ≤ 16777216
    case neg => rw [if_neg hz] at g1'; exact g1'.elim
    rw [if_pos hz] at g1'
    refine ⟨fun i m H => m = ds.length - i ∧ i ≤ ds.length ∧ ∃ B2 e2 acc, Same B1 B2 ∧ SIV K W B2 H σ e2 (.ref L) (.own acc) ∧ forgetL vs e2 = e2 ∧ GoodO K ax W σ B2 Q ((comp2E vs t it1 vs1 t1 f (ds.drop i) acc e2).bind fun acc e3 => .ok (.own acc) (restoreL vs e e3)),
      ⟨ds.length, rfl, Nat.zero_le _, B1, forgetL vs e, [], fun _ _ h => h, (si1.newOwn hL).forgets vs, forgetL_idem vs e, g1'⟩, fun i m H2 w => ?_⟩
    obtain ⟨rfl, hil, B2, e2, acc, s2, siv, hfe, g2⟩ := w
    by_cases hlt : i < ds.length
    · refine .inr ?_
      obtain ⟨yg, ys⟩ := r1 B2 H2 i s2 siv.1.bh
      obtain ⟨jg, jy⟩ := yg ds[i] (List.getElem?_eq_getElem hlt)
      rw [List.drop_eq_getElem_cons hlt] at g2
      refine ⟨jg, fun H' => ∃ B3 e3 acc', Same B1 B3 ∧ SIV K W B3 H' σ e3 (.ref L) (.own acc') ∧ forgetL vs e3 = e3 ∧ GoodO K ax W σ B3 Q ((comp2E vs t it1 vs1 t1 f (ds.drop (i + 1)) acc' e3).bind fun acc e4 => .ok (.own acc) (restoreL vs e e4)), fun H' n => ⟨ds.length - (i + 1), by omega, rfl, hlt, n⟩, fun x H' y => ?_⟩
      obtain ⟨B3, gr, rx⟩ := jy x H' y
      obtain ⟨gw, F, Fv, sl, sv, hm, hd⟩ := siv.more gr
      have sb := block_in (vs := vs) gw sl
      unfold comp2E at g2
      cases q : t ds[i] e2 with
      | none => rw [q] at g2; exact g2.elim
      | some e3 =>
        rw [q] at g2
        dsimp only at g2
        rw [hfe] at sb
        refine GIn_use hin hg sb rx q (wipe_idem vs) fun σ4 si4 hw4 => ⟨hw4, ?_⟩
        refine tYes_at ?_
        rw [if_pos rfl]
        refine hi1 _ B3 H' σ4 e3 _ si4 (good_quiet (fun J1 B5 H5 zs e5 he5 s5 si5 r5 => ?_) ?_)
        · have g3 : GoodO K ax W σ B2 Q ((if acc.length + zs.length ≤ 16777216 then (compE vs1 t1 mYes f zs acc (forgetL vs1 e5)).bind fun acc e3 => comp2E vs t it1 vs1 t1 f (ds.drop (i + 1)) acc (forgetL vs e3) else .stuck).bind fun acc e3 => .ok (.own acc) (restoreL vs e e3)) := by
            have g2' := g2
            rw [he5] at g2'
            exact g2'
          by_cases hz2 : acc.length + zs.length ≤ 16777216
          case neg => rw [if_neg hz2] at g3; exact g3.elim
          rw [if_pos hz2] at g3
          have s25 : Same B2 B5 := gr.b.trans s5
          have sivm := block_mid gw sl sv hm hd si5 hw4
          refine ⟨fun j k H => k = zs.length - j ∧ j ≤ zs.length ∧ ∃ B6 e6 acc6, Same B5 B6 ∧ SIV K (midW W) B6 H σ4 e6 (.ref L) (.own acc6) ∧ acc6.length ≤ acc.length + j ∧ forgetL vs1 e6 = e6 ∧ GoodO K ax W σ B6 Q (((compE vs1 t1 mYes f (zs.drop j) acc6 e6).bind fun acc e3 => comp2E vs t it1 vs1 t1 f (ds.drop (i + 1)) acc (forgetL vs e3)).bind fun acc e3 => .ok (.own acc) (restoreL vs e e3)),
            ⟨zs.length, rfl, Nat.zero_le _, B5, forgetL vs1 e5, acc, fun _ _ h => h, sivm.forgets vs1, Nat.le_add_right _ _, forgetL_idem vs1 e5, GoodO.up s25 g3⟩, fun j k H6 w => ?_⟩
          obtain ⟨rfl, hjl, B6, e6, acc6, s6, siv6, hl6, hfe6, g6⟩ := w
          by_cases hlt2 : j < zs.length
          · refine .inr ?_
            obtain ⟨yg, ys⟩ := r5 B6 H6 j s6 siv6.1.bh
            obtain ⟨jg, jy⟩ := yg zs[j] (List.getElem?_eq_getElem hlt2)
            rw [List.drop_eq_getElem_cons hlt2] at g6
            refine ⟨jg, fun H' => ∃ B7 e7 acc7, Same B5 B7 ∧ SIV K (midW W) B7 H' σ4 e7 (.ref L) (.own acc7) ∧ acc7.length ≤ acc.length + (j + 1) ∧ forgetL vs1 e7 = e7 ∧ GoodO K ax W σ B7 Q (((compE vs1 t1 mYes f (zs.drop (j + 1)) acc7 e7).bind fun acc e3 => comp2E vs t it1 vs1 t1 f (ds.drop (i + 1)) acc (forgetL vs e3)).bind fun acc e3 => .ok (.own acc) (restoreL vs e e3)), fun H' n => ⟨zs.length - (j + 1), by omega, rfl, hlt2, n⟩, fun x H' y => ?_⟩
            obtain ⟨B7, gr7, rx7⟩ := jy x H' y
            obtain ⟨gw7, F7, Fv7, sl7, sv7, hm7, hd7⟩ := siv6.more gr7
            have sb7 := block_in (vs := vs1) gw7 sl7
            unfold compE at g6
            cases q7 : t1 zs[j] e6 with
            | none => rw [q7] at g6; exact g6.elim
            | some e8 =>
              rw [q7] at g6
              dsimp only at g6
              rw [hfe6] at sb7
              refine GIn_use hin1 hg1 sb7 rx7 q7 (wipe_idem vs1) fun σ8 si8 hw8 => ⟨hw8, ?_⟩
              refine tYes_at ?_
              rw [if_pos rfl]
              have g7 : GoodO K ax W σ B6 Q ((((f e8).quiet.bind fun d e3 => compE vs1 t1 mYes f (zs.drop (j + 1)) (acc6 ++ [d]) (forgetL vs1 e3)).bind fun acc e3 => comp2E vs t it1 vs1 t1 f (ds.drop (i + 1)) acc (forgetL vs e3)).bind fun acc e3 => .ok (.own acc) (restoreL vs e e3)) := g6
              refine hf _ B7 _ σ8 e8 _ si8 (good_quiet (fun y B9 H9 d e9 he9 s9 si9 r9 => ?_) ?_)
              · have g9 : GoodO K ax W σ B6 Q (((compE vs1 t1 mYes f (zs.drop (j + 1)) (acc6 ++ [d]) (forgetL vs1 e9)).bind fun acc e3 => comp2E vs t it1 vs1 t1 f (ds.drop (i + 1)) acc (forgetL vs e3)).bind fun acc e3 => .ok (.own acc) (restoreL vs e e3)) := by
                  have g7' := g7
                  rw [he9] at g7'
                  exact g7'
                have s69 : Same B6 B9 := gr7.b.trans s9
                have siv9 := block_out gw7 sl7 sv7 hm7 hd7 si9 hw8
                obtain ⟨us, hL9, rs, wr⟩ := siv9.writeV
                have hul : us.length = acc6.length := rs.length
                refine ⟨us, hL9, by rw [hul, PySem.sizeLine_eq]; omega, B9, forgetL vs1 e9, acc6 ++ [d], s6.trans s69, wr _ _ (rs.append (.cons r9 .nil)) ?_, ?_, forgetL_idem vs1 e9, GoodO.up s69 g9⟩
                · rw [List.length_append, List.length_singleton, hul, PySem.sizeLine_eq]; omega
                · rw [List.length_append, List.length_singleton]; omega
              · intro z
                rw [z] at g7
                exact g7
          · have hj : j = zs.length := by omega
            obtain ⟨yg, ys⟩ := r5 B6 H6 j s6 siv6.1.bh
            refine .inl ⟨ys (by omega), ?_⟩
            rw [List.drop_eq_nil_of_le (by omega)] at g6
            exact ⟨B6, forgetL vs e6, acc6, s2.trans (s25.trans s6), block_end siv6 sl.pin hw4, forgetL_idem vs e6, g6⟩
        · intro z
          have g2' := g2
          rw [z] at g2'
          exact g2'
    · have hi : i = ds.length := by omega
      obtain ⟨yg, ys⟩ := r1 B2 H2 i s2 siv.1.bh
      refine .inl ⟨ys (by omega), ?_⟩
      rw [List.drop_eq_nil_of_le (by omega)] at g2
      refine g2 (.ref L) B2 H2 (fun _ _ h => h) (siv.restores vs si1 s2))
end
section
variable {ax : Ax} {X : Cx} {K : PySem.W.Frag} {io : List Nat} {pos : Pos} {f : M D}
/-- the loosest reading of a mirror of an iteration -/
def cI (K : PySem.W.Frag) (ax : Ax) (it : M (List D)) : TI := fun σ H R => ∃ W B env, SI K W B H σ env ∧ Good (RI K) K ax W σ B R (it env)
theorem si_cI (it : M (List D)) : SIt K ax (cI K ax it) it := fun W B _ _ env _ si g => ⟨W, B, env, si, g⟩
theorem MI.canon {tg iter : Expr} {it : M (List D)} (h : MI ax X tg iter it) : PI X tg iter (cI X.K ax it) := let ⟨_, p, s⟩ := h; ⟨fun pins t σ H Q I ⟨W, B, env, si, g⟩ => p.run pins t σ H Q I (s W B H σ env Q si g)⟩
theorem mo_lc2 {elt tg iter tg1 iter1 : Expr} {scope : Scope} {it it1 : M (List D)} {t t1 : D → Env' → Option Env'} (own : List (Str × Nat)) (vs1 : List Nat) (nd : X.N.Nodup) (hi : MI ax X tg iter it) (ok : BlkOk X.N X.env.scope scope own)
    (hg : BG X scope tg t (own.map (·.2))) (hi1 : ∀ s H C cl fp, MI (ax0 ax) (blkX X scope s H C cl fp) tg1 iter1 it1) (hg1 : BG X scope tg1 t1 vs1) (he : ∀ s H C cl fp, MD (ax0 ax) (blkX X scope s H C cl fp) elt f) (hv : vs1.all (fun i => (own.map (·.2)).contains i) = true := by rfl) (hm : X.calm = true := by rfl) (hs : ∀ x, foldedSetIterable iter X.env x = pure x := by intro _; rfl) (hs1 : ∀ env x, foldedSetIterable iter1 env x = pure x := by intro _ _; rfl) :
    MO ax X (.ListComp elt [⟨tg, iter, [], 0⟩, ⟨tg1, iter1, [], 0⟩] scope pos) (mComp2 (own.map (·.2)) vs1 it t it1 t1 f) := by
  obtain ⟨wi, p, s⟩ := hi
  obtain ⟨g, pg, sg, gi⟩ := hg
  obtain ⟨g1, pg1, sg1, gi1⟩ := hg1
  exact ⟨_, pe_lc2 (te := cE X.K (ax0 ax) f) (wi1 := cI X.K (ax0 ax) it1) hm nd p ok (fun i hi => by
    have := List.all_eq_true.mp hv i hi
    simpa using this) pg (fun _ _ _ _ _ => pts_nil) (fun s H C cl fp => (hi1 s H C cl fp).canon) pg1 (fun _ _ _ _ _ => pts_nil) (fun s H C cl fp => (he s H C cl fp).canon) hs hs1, so_comp2 s sg gi (si_cI _) sg1 gi1 (sd_cE _ _ _)⟩
end
end Lp

namespace Lp
open PySem PySem.Spec L2 PyProof.Rows
set_option autoImplicit false
section
variable {K : PySem.W.Frag} {ax : Ax} {W : Wd} {B B' H H' : Hp} {σ : L2.St} {env : Env'} {io : List Nat} {X : Cx} {d : D}
/-! ### {k: v, ..}, the keys rows of ints -/
theorem block_any {vs : List Nat} {v : V} {r : Sl} {F : Nat → List Addr} {Fv : List Addr} {σ2 : L2.St} {e2 : Env'} (g : Grow W.B0 W.H0 W.ft B H) (s : Slots K W B H σ env F) (sv : SlV K W B H Fv v r) (hm : ∀ a ∈ Fv, Mut (H a) ∧ Ownd W B H a) (hd : ∀ i a, a ∈ F i → a ∉ Fv)
    (si : SI K (blkW B H F env.length) B' H' σ2 e2) (hw : wipe σ2 vs = wipe σ vs) : SIV K W B' H' σ (forgetL vs e2) v r := by
  obtain ⟨g2, F2, s2⟩ := si
  have hft : ∀ a ∈ (blkW B H F env.length).ft, W.H0 a = none ∨ a ∈ W.ft := fun a ha => let ⟨i, _, h⟩ := mem_blk ha; (s.there i a h).2.fr
  have nft : ∀ a ∈ Fv, a ∉ (blkW B H F env.length).ft := fun a ha h => let ⟨i, _, h⟩ := mem_blk h; hd i a h ha
  have c : ∀ p, Ownd (blkW B H F env.length) B' H' p → Ownd W B' H' p := fun p o => Ownd.out (W2 := blkW B H F env.length) g rfl hft o
  have g2' : Grow B H (blkW B H F env.length).ft B' H' := g2
  have hσ : ∀ j, j ∉ vs → σ2[j]? = σ[j]? := fun j hj => by rw [← wipe_out' (vs := vs) (σ := σ2) hj, hw, wipe_out' hj]
  refine ⟨g.trans g2' hft, fun j => if j ∈ vs then [] else F2 j, Fv, ⟨?_, s.pin, fun j x e => ?_, fun j a ha => ?_, fun i j a h1 h2 => ?_⟩, sv.grow g2'.b (fun a ha hb => g2'.fr a hb (hm a ha).1 (nft a ha)) (fun a ha o e => g2'.keep a o (nft a ha) e), fun a ha => ?_, fun j a ha hv => ?_⟩
  · rw [forgetL_length, ← s2.len]
    have := congrArg List.length hw
    rw [wipe_length, wipe_length] at this
    exact this.symm
  · rcases forgetL_get vs e2 j x e with q | ⟨q, q2⟩
    · exact .inl q
    · rw [if_neg q, ← hσ j q]
      exact (s2.at_ j x q2).out c
  · skip
    by_cases q : j ∈ vs
    · rw [if_pos q] at ha; simp at ha
    · rw [if_neg q] at ha
      exact ⟨(s2.there j a ha).1, c a (s2.there j a ha).2⟩
  · by_cases q : i ∈ vs <;> by_cases q2 : j ∈ vs
    · rw [if_pos q] at h1; simp at h1
    · rw [if_pos q] at h1; simp at h1
    · rw [if_pos q2] at h2; simp at h2
    · rw [if_neg q] at h1; rw [if_neg q2] at h2; exact s2.dis i j a h1 h2
  · obtain ⟨m, o⟩ := hm a ha
    refine ⟨?_, g2'.fr a o.nb m (nft a ha), o.fr⟩
    cases q : H a with
    | none => rw [q] at m; exact m.elim
    | some u => rw [g2'.keep a u (nft a ha) q, ← q]; exact m
  · dsimp only at ha
    by_cases q : j ∈ vs
    · rw [if_pos q] at ha; simp at ha
    · rw [if_neg q] at ha
      rcases (s2.there j a ha).2.fr with z | z
      · have m := (hm a hv).1
        have z' : H a = none := z
        rw [z'] at m; exact m
      · exact nft a hv z
theorem SIV.writeD {p : Addr} (h : SIV K W B H σ env (.ref p) (.dcT [])) : ∀ L kvs, (∀ q ∈ L, SqT K B q.2.1 (q.1.map V.int)) → L.map (·.1) = kvs.map (·.1) → RpAll K B (L.map (·.2.2)) (kvs.map (·.2)) → SIV K W B (upd H p (DicO p L)) σ env (.ref p) (.dcT kvs) := by
  obtain ⟨g, F, Fv, s, ⟨q, L1, e, hpF, o, hp, t, hk, rs⟩, hm, hd⟩ := h
  cases e
  have ne : ∀ i a, a ∈ F i → a ≠ p := fun i a ha z => hd i a ha (z ▸ hpF)
  refine fun L kvs t' hk' rs' => ⟨⟨g.b, fun b u e => by rw [upd_ne (ne_of_none e o.nb)]; exact g.bh _ _ e, g.fr, fun a u h1 h2 => ?_, fun a h1 => ?_⟩, F, [p], s.grow (fun _ _ h => h) (fun _ _ _ h => h) fun i a ha o e => by rw [upd_ne (ne i a ha)]; exact e,
    ⟨p, L, rfl, by simp, ⟨o.nb, o.fr⟩, upd_same, t', hk', rs'⟩, fun a ha => ?_, fun i a ha => by simpa using ne i a ha⟩
  · have : a ≠ p := fun q => by
      subst q
      rcases o.fr with z | z
      · rw [z] at h2; cases h2
      · exact h1 z
    rw [upd_ne this]; exact g.keep a u h1 h2
  · by_cases q : a = p
    · rw [q, upd_same]; simp
    · rw [upd_ne q]; exact g.st a h1
  · have : a = p := by simpa using ha
    subst this
    rw [upd_same]
    exact ⟨trivial, o.nb, o.fr⟩
abbrev KRow := List Int × Addr × V
def putAllX (acc : List DRow) (L : List KRow) : List DRow := L.foldl (fun acc q => putX acc q.1 q.2.1 q.2.2) acc
theorem putX_len (L : List DRow) (k : List Int) (b : Addr) (v : V) : (putX L k b v).length ≤ L.length + 1 := by
  unfold putX
  split
  · rw [List.length_map]; omega
  · rw [List.length_append]; exact Nat.le_refl _
def tDispX (K : PySem.W.Frag) (trs : List (TE × TE)) : TE := fun σ H Q => ∀ p, H p = none → tPairs trs σ (upd H p (DicO p [])) fun ps H2 => H2 p = some (DicO p []) ∧ ∃ L : List KRow, ps = L.map (fun q => (V.ref q.2.1, q.2.2)) ∧ L.length ≤ 15 ∧ (∀ q ∈ L, SqT K H2 q.2.1 (q.1.map V.int)) ∧ Q (.ref p) (upd H2 p (DicO p (putAllX [] L)))
theorem sqT_upd {p : Addr} {L0 : List DRow} {o : HO} (e : H p = some (DicO p L0)) {b : Addr} {xs : List V} (h : SqT K H b xs) : SqT K (upd H p o) b xs := by
  rcases h with h | h
  · refine .inl ?_
    have hb : b ≠ p := fun z => by
      subst z
      rcases h with h | ⟨w, h⟩
      · rw [e] at h; cases h
      · rw [e] at h
        have h' := Option.some.inj h
        unfold DicO at h'
        cases h'
    rcases h with h | h
    · exact .inl (by rw [upd_ne hb]; exact h)
    · exact .inr (by rw [upd_ne hb]; exact h)
  · exact .inr h
theorem store_x {pins : List (Addr × Obj)} {p : Addr} (hu : X.A.units + 1 < cLine) : ∀ (L : List KRow) (vs : List (Value × Value)) (acc : List DRow) (H : Hp) (s : Shared) (Q : Shared → Prop), Inv X pins σ H s → H p = some (DicO p acc) → (∀ q ∈ acc, SqT X.K H q.2.1 (q.1.map V.int)) → (∀ q ∈ L, SqT X.K H q.2.1 (q.1.map V.int)) →
    VV (L.map fun q => (V.ref q.2.1, q.2.2)) vs → acc.length + L.length ≤ sizeLine → (∀ s', Inv X pins σ (upd H p (DicO p (putAllX acc L))) s' → Q s') → wpAny (model X.prog X.w) X.A (storeAll p vs) (fun _ s' => Q s') X.xe s
  | [], vs, acc, H, s, Q, I, e, t, t2, r, hz, h => by
    cases r
    unfold storeAll
    rw [List.forIn_nil]
    refine wpAny_pure (h s ?_)
    have : upd H p (DicO p (putAllX acc [])) = H := by
      funext a
      by_cases q : a = p
      · rw [q, upd_same]; exact e.symm
      · rw [upd_ne q]
    rw [this]; exact I
  | q :: L, vs, acc, H, s, Q, I, e, t, t2, r, hz, h => by
    rw [List.map_cons] at r
    cases r with
    | @cons a w as ws hr tr =>
      obtain ⟨w1, w2⟩ := w
      obtain ⟨h1, h2⟩ := hr
      cases (show w1 = Value.ref q.2.1 from h1)
      unfold storeAll
      rw [List.forIn_cons]
      rw [List.length_cons] at hz
      obtain ⟨z, hd, xs, pr, dd⟩ := dic_rd I e t
      have hz2 : xs.length ≤ sizeLine := by rw [← Paired.length pr]; exact z
      have hl : (putX acc q.1 q.2.1 q.2.2).length ≤ sizeLine := Nat.le_trans (putX_len _ _ _ _) (by omega)
      have hb := t2 q (List.mem_cons_self ..)
      refine wpAny_bind (wpAny_bind (wpAny_dictSet_heap (hsz := hz2) (by show X.A.units < cLine; omega) (I.isT hb) dd fun h' dd' hs => wpAny_pure ?_))
      have he : ∃ q, h'.get? p = some q := let ⟨q, _, _, hq, _⟩ := dd'; ⟨q, hq⟩
      have keep : ∀ (b : Addr) (xs : List V), SqT X.K H b xs → SqT X.K (upd H p (DicO p (putX acc q.1 q.2.1 q.2.2))) b xs := fun b xs hh => sqT_upd e hh
      refine store_x hu L ws (putX acc q.1 q.2.1 q.2.2) _ _ Q (d_write I (by rw [e]; exact True.intro) hs he (dicO_ok (dic_of hl hd (PX.put pr q.1 q.2.1 h2) dd'))) upd_same (fun u hu' => keep _ _ (put_t t hb u hu')) (fun u hu' => keep _ _ (t2 u (List.mem_cons_of_mem _ hu'))) tr (by have := putX_len acc q.1 q.2.1 q.2.2; omega) fun s' I3 => ?_
      refine h s' ?_
      have : upd (upd H p (DicO p (putX acc q.1 q.2.1 q.2.2))) p (DicO p (putAllX (putX acc q.1 q.2.1 q.2.2) L)) = upd H p (DicO p (putAllX acc (q :: L))) := by
        funext a
        by_cases z : a = p
        · rw [z, upd_same, upd_same]; rfl
        · rw [upd_ne z, upd_ne z, upd_ne z]
      rw [← this]; exact I3
theorem pe_dispX {pos : Pos} {keys : List (Option Expr)} {values : List Expr} {trs : List (TE × TE)} (hu : X.A.units + 1 < cLine) (h : PPs X pos keys values trs) (hall : keys.all (·.isSome) = true) (hl : keys.length = values.length) (h0 : keys ≠ [])
    (h15 : keys.length ≤ 15) : PE X (.Dict keys values pos) (tDispX X.K trs) := by
  refine ⟨fun pins s σ H Q I q => ?_⟩
  have hn := I.hok.fresh (Nat.le_refl s.heap.objs.size)
  have I1 := I.laid (a := s.heap.objs.size) (o := DicO s.heap.objs.size []) (h' := s.heap.push { cls := .type "dict", data := .dict #[] }) (t' := s.toks) (fun _ _ q => Heap.get?_push_of_some _ q) (Nat.le_refl _)
    (dicO_ok ⟨Nat.zero_le _, beq_eq_false_iff_ne.mpr (Ne.symm (Nat.ne_of_lt I.big)), List.nodup_nil, [], .nil, _, #[], 0, Heap.get?_push_size _ rfl, ⟨rfl, rfl, rfl⟩, rfl, rfl⟩)
  refine wpAny_Dict_any hall hl h0 h15 (thn (h.run pins _ σ _ _ I1 (q _ hn)) fun ws s2 ⟨ps, H2, I2, rel, e, L, ep, hL, t, q2⟩ => ?_)
  subst ep
  exact store_x hu L ws [] H2 s2 _ I2 e (by simp) t rel (by rw [sizeLine_eq, List.length_nil]; omega) fun s' I3 => ⟨.ref s.heap.objs.size, _, I3, rfl, q2⟩
abbrev RPs (K : PySem.W.Frag) (B : Hp) : List (V × V) → List (D × D) → Prop := Paired fun p q => Rp K B p.1 q.1 ∧ Rp K B p.2 q.2
theorem RPs.mono {ps : List (V × V)} {ds : List (D × D)} (h : RPs K B ps ds) (s : Same B B') : RPs K B' ps ds := by
  induction h with
  | nil => exact .nil
  | cons h _ ih => exact .cons ⟨h.1.mono s, h.2.mono s⟩ ih
def SPs (K : PySem.W.Frag) (ax : Ax) (trs : List (TE × TE)) (m : M (List (D × D))) : Prop := ∀ (W : Wd) (B H : Hp) (σ : L2.St) (env : Env') (Q : List (V × V) → Hp → Prop), SI K W B H σ env → Good (RPs K) K ax W σ B Q (m env) → tPairs trs σ H Q
def mPNil : M (List (D × D)) := fun e => .ok [] e
def mPCons (k v : M D) (r : M (List (D × D))) : M (List (D × D)) := fun e => (k e).bind fun x e => (v e).bind fun y e => (r e).bind fun ps e => .ok ((x, y) :: ps) e
theorem sps_nil : SPs K ax [] mPNil := fun W B H σ env Q si g => g [] B H (fun _ _ e => e) si .nil
theorem sps_cons {tk tv : TE} {trs : List (TE × TE)} {k v : M D} {r : M (List (D × D))} (hk : SD K ax tk k) (hv : SD K ax tv v) (hr : SPs K ax trs r) : SPs K ax ((tk, tv) :: trs) (mPCons k v r) := fun W B H σ env Q si gd =>
  hk W B H σ env _ si (Good.bind gd fun x e u B1 H1 s1 si1 r1 g1 => hv W B1 H1 σ e _ si1 (Good.bind g1 fun y e2 w B2 H2 s2 si2 r2 g2 => hr W B2 H2 σ e2 _ si2 (Good.bind g2 fun ps e3 vs B3 H3 s3 si3 r3 g3 =>
    g3 ((u, w) :: vs) B3 H3 (fun _ _ e => e) si3 (.cons ⟨(r1.mono s2).mono s3, r2.mono s3⟩ r3))))
def rowKeys : List (D × D) → Option (List (List Int × D))
  | [] => some []
  | (.tuple ks, d) :: r => (intsD ks).bind fun k => (rowKeys r).map ((k, d) :: ·)
  | _ => none
def putAllD (acc : List (List Int × D)) (kvs : List (List Int × D)) : List (List Int × D) := kvs.foldl (fun acc q => putD acc q.1 q.2) acc
def mDisp (m : M (List (D × D))) : M Sl := fun e => (m e).quiet.bind fun ps e => match rowKeys ps with
  | some kvs => if kvs.length ≤ 15 then .ok (.dcT (putAllD [] kvs)) e else .stuck
  | none => .stuck
theorem rows_of {H : Hp} (s : Same B H) : ∀ {ds : List (D × D)} {ps : List (V × V)} {kvs : List (List Int × D)}, rowKeys ds = some kvs → RPs K B ps ds → ∃ L : List KRow, ps = L.map (fun q => (V.ref q.2.1, q.2.2)) ∧ L.length = kvs.length ∧ (∀ q ∈ L, SqT K B q.2.1 (q.1.map V.int)) ∧ Paired (fun (p : KRow) (q : List Int × D) => p.1 = q.1 ∧ Rp K B p.2.2 q.2) L kvs
  | [], _, kvs, h, r => by
    cases h; cases r
    exact ⟨[], rfl, rfl, by simp, .nil⟩
  | (x, d) :: ds, _, kvs, h, r => by
    cases x with
    | tuple ks =>
      unfold rowKeys at h
      obtain ⟨k, h1, h2⟩ := Option.bind_eq_some_iff.mp h
      obtain ⟨kv, h3, rfl⟩ := Option.map_eq_some_iff.mp h2
      cases r with
      | @cons a _ as _ hr tr =>
        obtain ⟨L, rfl, l2, t2, p2⟩ := rows_of s h3 tr
        obtain ⟨a1, a2⟩ := a
        obtain ⟨b, e1, hb⟩ := key_at s h1 hr.1
        cases (show a1 = V.ref b from e1)
        exact ⟨(k, b, a2) :: L, rfl, by simp [l2], fun q hq => by
          rcases List.mem_cons.mp hq with rfl | hq
          · exact hb
          · exact t2 q hq, .cons ⟨rfl, hr.2⟩ p2⟩
    | _ => simp [rowKeys] at h
theorem put_all : ∀ {L : List KRow} {kvs : List (List Int × D)} {acc : List DRow} {da : List (List Int × D)}, Paired (fun (p : KRow) (q : List Int × D) => p.1 = q.1 ∧ Rp K B p.2.2 q.2) L kvs → (∀ q ∈ L, SqT K B q.2.1 (q.1.map V.int)) → (∀ q ∈ acc, SqT K B q.2.1 (q.1.map V.int)) → acc.map (·.1) = da.map (·.1) → RpAll K B (acc.map (·.2.2)) (da.map (·.2)) →
    (∀ q ∈ putAllX acc L, SqT K B q.2.1 (q.1.map V.int)) ∧ (putAllX acc L).map (·.1) = (putAllD da kvs).map (·.1) ∧ RpAll K B ((putAllX acc L).map (·.2.2)) ((putAllD da kvs).map (·.2))
  | [], _, acc, da, r, t, ta, e, ra => by cases r; exact ⟨ta, e, ra⟩
  | q :: L, _, acc, da, r, t, ta, e, ra => by
    cases r with
    | @cons _ b _ bs h tr =>
      obtain ⟨k, d⟩ := b
      obtain ⟨h1, h2⟩ := h
      dsimp only at h1 h2
      obtain ⟨e3, r3⟩ := put_rp (k := q.1) (b := q.2.1) e ra h2
      have := put_all (acc := putX acc q.1 q.2.1 q.2.2) (da := putD da q.1 d) tr (fun u hu => t u (List.mem_cons_of_mem _ hu)) (put_t ta (t q (List.mem_cons_self ..))) e3 r3
      rw [h1] at this
      have e4 : putAllX acc (q :: L) = putAllX (putX acc k q.2.1 q.2.2) L := by rw [← h1]; rfl
      rw [e4]
      exact this
theorem so_disp {trs : List (TE × TE)} {m : M (List (D × D))} (h : SPs K (ax0 ax) trs m) : SO K ax (tDispX K trs) (mDisp m) := fun W B H σ env Q si gd p hp => by
  have siv : SIV K W B (upd H p (DicO p [])) σ env (.ref p) (.dcT []) := si.newX hp trivial fun F m o => ⟨p, [], rfl, m, o, upd_same, by simp, rfl, .nil⟩
  obtain ⟨gw, F, Fv, sl, sv, hm, hd⟩ := siv
  have sb : SI K (blkW B (upd H p (DicO p [])) F env.length) B (upd H p (DicO p [])) σ env := block_in (vs := []) gw sl
  unfold mDisp at gd
  refine h _ B _ σ env _ sb (good_quiet (fun ps B2 H2 ds e he s2 si2 r2 => ?_) ?_)
  · rw [he] at gd
    have g2 : GoodO K ax W σ B Q (match rowKeys ds with
      | some kvs => if kvs.length ≤ 15 then .ok (.dcT (putAllD [] kvs)) e else .stuck
      | none => .stuck) := gd
    have siv2 : SIV K W B2 H2 σ e (.ref p) (.dcT []) := block_any (vs := []) gw sl sv hm hd si2 rfl
    have hH2 : H2 p = some (DicO p []) := by
      obtain ⟨_, _, _, _, ⟨q, L, e1, _, _, hq, _, hk, _⟩, _, _⟩ := siv2
      cases e1
      have : L = [] := List.map_eq_nil_iff.mp hk
      rw [hq, this]
    cases q : rowKeys ds with
    | none => rw [q] at g2; exact g2.elim
    | some kvs =>
      rw [q] at g2
      dsimp only at g2
      by_cases hz : kvs.length ≤ 15
      case neg => rw [if_neg hz] at g2; exact g2.elim
      rw [if_pos hz] at g2
      obtain ⟨L, rfl, hl, t, pr⟩ := rows_of si2.same q r2
      obtain ⟨t3, e3, r3⟩ := put_all (acc := []) (da := []) pr t (by simp) rfl .nil
      exact ⟨hH2, L, rfl, by omega, fun q hq => Same.sqT si2.same (t q hq), g2 (.ref p) B2 _ s2 (siv2.writeD _ _ t3 e3 r3)⟩
  · intro z
    rw [z] at gd
    exact gd
def MPs (ax : Ax) (X : Cx) (pos : Pos) (keys : List (Option Expr)) (values : List Expr) (m : M (List (D × D))) : Prop := ∃ trs, PPs X pos keys values trs ∧ SPs X.K ax trs m
theorem mps_nil {pos : Pos} : MPs ax X pos [] [] mPNil := ⟨_, pps_nil, sps_nil⟩
theorem mps_cons {pos : Pos} {ke ve : Expr} {ks : List (Option Expr)} {vs : List Expr} {k v : M D} {r : M (List (D × D))} (hk : MD ax X ke k) (hv : MD ax X ve v) (hr : MPs ax X pos ks vs r) : MPs ax X pos (some ke :: ks) (ve :: vs) (mPCons k v r) :=
  let ⟨_, p, s⟩ := hk; let ⟨_, p1, s1⟩ := hv; let ⟨_, p2, s2⟩ := hr; ⟨_, pps_cons p p1 p2, sps_cons s s1 s2⟩
theorem mo_disp {pos : Pos} {keys : List (Option Expr)} {values : List Expr} {m : M (List (D × D))} (hu : X.A.units + 1 < cLine) (h : MPs (ax0 ax) X pos keys values m) (hall : keys.all (·.isSome) = true := by rfl) (hl : keys.length = values.length := by rfl) (h0 : keys ≠ [] := by intro z; cases z) (h15 : keys.length ≤ 15 := by decide) : MO ax X (.Dict keys values pos) (mDisp m) :=
  let ⟨_, p, s⟩ := h; ⟨_, pe_dispX hu p hall hl h0 h15, so_disp s⟩
end
section
variable {T : Sl → Env' → Prop} {P : List (D × D) → Env' → Prop} {e : Env'}
theorem i_pnil (q : P [] e) : Wp (mPNil e) P := wp_ok.mpr q
theorem i_pcons {k v : M D} {r : M (List (D × D))} (q : Wp (k e) fun x e => Wp (v e) fun y e => Wp (r e) fun ps e => P ((x, y) :: ps) e) : Wp (mPCons k v r e) P := by
  obtain ⟨x, e1, h1, h2⟩ := q.ex
  obtain ⟨y, e2, h3, h4⟩ := h2.ex
  obtain ⟨ps, e3, h5, h6⟩ := h4.ex
  unfold mPCons
  rw [h1]
  simp only [Out.bind_ok, h3, h5]
  exact wp_ok.mpr h6
theorem i_disp {m : M (List (D × D))} (q : Wp (m e) fun ps e => ∃ kvs, rowKeys ps = some kvs ∧ kvs.length ≤ 15 ∧ T (.dcT (putAllD [] kvs)) e) : Wp (mDisp m e) T := by
  obtain ⟨ps, e1, h1, kvs, h2, h3, h4⟩ := q.ex
  unfold mDisp
  rw [h1]
  show Wp (match rowKeys ps with
    | some kvs => if kvs.length ≤ 15 then Out.ok (Sl.dcT (putAllD [] kvs)) e1 else .stuck
    | none => .stuck) T
  rw [h2]
  dsimp only
  rw [if_pos h3]
  exact wp_ok.mpr h4
end
end Lp

namespace Lp
open PySem PySem.Spec L2
set_option autoImplicit false
section
variable {ax : Ax} {X : Cx} {K : PySem.W.Frag} {io : List Nat} {pos : Pos} {f : M D}
theorem ms_setLc2 (i : Nat) {y : Str} {py : Pos} {elt tg iter tg1 iter1 : Expr} {scope : Scope} {spos : Pos} {it it1 : M (List D)} {t t1 : D → Env' → Option Env'} (own : List (Str × Nat)) (vs1 : List Nat) (nd : X.N.Nodup) (hio : io.contains i = false) (hi : MI ax X tg iter it) (ok : BlkOk X.N X.env.scope scope own)
    (hg : BG X scope tg t (own.map (·.2))) (hi1 : ∀ s H C cl fp, MI (ax0 ax) (blkX X scope s H C cl fp) tg1 iter1 it1) (hg1 : BG X scope tg1 t1 vs1) (he : ∀ s H C cl fp, MD (ax0 ax) (blkX X scope s H C cl fp) elt f) (hsw : swapsWith (.ListComp elt [⟨tg, iter, [], 0⟩, ⟨tg1, iter1, [], 0⟩] scope pos) (some (.Name y py)) spos.line X.env = pure true)
    (hv : vs1.all (fun i => (own.map (·.2)).contains i) = true := by rfl) (hy : X.N[i]? = some y := by rfl) (hyl : X.env.scope.names.lookup y = some .local := by rfl) (hm : X.calm = true := by rfl) (hs : ∀ x, foldedSetIterable iter X.env x = pure x := by intro _; rfl) (hs1 : ∀ env x, foldedSetIterable iter1 env x = pure x := by intro _ _; rfl) :
    MS ax io X (.Assign [.Name y py] (.ListComp elt [⟨tg, iter, [], 0⟩, ⟨tg1, iter1, [], 0⟩] scope pos) spos) (mAsgO i (mComp2 (own.map (·.2)) vs1 it t it1 t1 f)) := by
  obtain ⟨wi, p, s⟩ := hi
  obtain ⟨g, pg, sg, gi⟩ := hg
  obtain ⟨g1, pg1, sg1, gi1⟩ := hg1
  exact ⟨_, ps_setLc2 (te := cE X.K (ax0 ax) f) (wi1 := cI X.K (ax0 ax) it1) hm nd hy hyl hsw p ok (fun i hi => by
    have := List.all_eq_true.mp hv i hi
    simpa using this) pg (fun _ _ _ _ _ => pts_nil) (fun s H C cl fp => (hi1 s H C cl fp).canon) pg1 (fun _ _ _ _ _ => pts_nil) (fun s H C cl fp => (he s H C cl fp).canon) hs hs1, ss_asgO (so_comp2 s sg gi (si_cI _) sg1 gi1 (sd_cE _ _ _)) (by simpa using hio)⟩
theorem ms_setLc2D (i : Nat) {y : Str} {py : Pos} {elt tg iter tg1 iter1 : Expr} {scope : Scope} {spos : Pos} {it it1 : M (List D)} {t t1 : D → Env' → Option Env'} (own : List (Str × Nat)) (vs1 : List Nat) (nd : X.N.Nodup) (hio : io.contains i = false) (hi : MI ax X tg iter it) (ok : BlkOk X.N X.env.scope scope own)
    (hg : BG X scope tg t (own.map (·.2))) (hi1 : ∀ s H C cl fp, MI (ax0 ax) (blkX X scope s H C cl fp) tg1 iter1 it1) (hg1 : BG X scope tg1 t1 vs1) (he : ∀ s H C cl fp, MD (ax0 ax) (blkX X scope s H C cl fp) elt f) (hsw : swapsWith (.ListComp elt [⟨tg, iter, [], 0⟩, ⟨tg1, iter1, [], 0⟩] scope pos) (some (.Name y py)) spos.line X.env = pure true)
    (hv : vs1.all (fun i => (own.map (·.2)).contains i) = true := by rfl) (hy : X.N[i]? = some y := by rfl) (hyl : X.env.scope.names.lookup y = some .local := by rfl) (hm : X.calm = true := by rfl) (hs : ∀ x, foldedSetIterable iter X.env x = pure x := by intro _; rfl) (hs1 : ∀ env x, foldedSetIterable iter1 env x = pure x := by intro _ _; rfl) :
    MS ax io X (.Assign [.Name y py] (.ListComp elt [⟨tg, iter, [], 0⟩, ⟨tg1, iter1, [], 0⟩] scope pos) spos) (mAsg i (mFz (mComp2 (own.map (·.2)) vs1 it t it1 t1 f))) := by
  obtain ⟨wi, p, s⟩ := hi
  obtain ⟨g, pg, sg, gi⟩ := hg
  obtain ⟨g1, pg1, sg1, gi1⟩ := hg1
  exact ⟨_, ps_setLc2 (te := cE X.K (ax0 ax) f) (wi1 := cI X.K (ax0 ax) it1) hm nd hy hyl hsw p ok (fun i hi => by
    have := List.all_eq_true.mp hv i hi
    simpa using this) pg (fun _ _ _ _ _ => pts_nil) (fun s H C cl fp => (hi1 s H C cl fp).canon) pg1 (fun _ _ _ _ _ => pts_nil) (fun s H C cl fp => (he s H C cl fp).canon) hs hs1, ss_asg (sd_fz (so_comp2 s sg gi (si_cI _) sg1 gi1 (sd_cE _ _ _))) (by simpa using hio)⟩
end
section
variable {T : Sl → Env' → Prop} {Z : List D → Env' → Prop} {f : M D}
theorem i_comp2 {e : Env'} {vs vs1 : List Nat} {it it1 : M (List D)} {t t1 : D → Env' → Option Env'} (q : Wp (it e) fun ds e => ds.length ≤ 16777216 ∧ Wp (comp2E vs t it1 vs1 t1 f ds [] (forgetL vs e)) fun acc e2 => T (.own acc) (restoreL vs e e2)) : Wp (mComp2 vs vs1 it t it1 t1 f e) T := by
  obtain ⟨ds, e1, h1, h2, h3⟩ := q.ex
  obtain ⟨acc, e2, h4, h5⟩ := h3.ex
  unfold mComp2
  rw [h1]
  simp only [Out.bind_ok, if_pos h2, h4]
  exact wp_ok.mpr h5
theorem quiet_of {α : Type} {o : Out α} {Q : α → Env' → Prop} (h : Wp o Q) : ∃ a e, o.quiet = .ok a e ∧ Q a e := by
  obtain ⟨a, e, h1, h2⟩ := h.ex
  exact ⟨a, e, by rw [h1]; rfl, h2⟩
theorem comp_acc {δ : Type} (ψ : δ → D) {vs : List Nat} {t : D → Env' → Option Env'} {e : Env'} (g : δ → D) : ∀ (ys : List δ) (acc : List D), (∀ y ∈ ys, ∃ e1, t (ψ y) e = some e1 ∧ Wp (f e1) fun d e3 => d = g y ∧ forgetL vs e3 = e) → compE vs t mYes f (ys.map ψ) acc e = .ok (acc ++ ys.map g) e
  | [], acc, _ => by rw [List.map_nil, List.map_nil, List.append_nil]; rfl
  | y :: ys, acc, h => by
    obtain ⟨e1, h1, h2⟩ := h y (List.mem_cons_self ..)
    obtain ⟨d, e3, h3, rfl, h4⟩ := quiet_of h2
    have hr := comp_acc ψ g ys (acc ++ [g y]) fun z hz => h z (List.mem_cons_of_mem _ hz)
    rw [List.map_cons]
    unfold compE
    rw [h1]
    show ((f e1).quiet.bind fun d e3 => compE vs t mYes f (ys.map ψ) (acc ++ [d]) (forgetL vs e3)) = _
    rw [h3]
    show compE vs t mYes f (ys.map ψ) (acc ++ [g y]) (forgetL vs e3) = _
    rw [h4, hr]
    simp
/-- [g x y for x in xs for y in ys x] -/
theorem wp_comp2A {γ δ : Type} (φ : γ → D) (ψ : δ → D) {vs vs1 : List Nat} {it1 : M (List D)} {t t1 : D → Env' → Option Env'} (ys : γ → List δ) (g : γ → δ → D) {e : Env'} (em : γ → Env') : ∀ (xs : List γ) (acc : List D),
    (∀ x ∈ xs, ∃ e1, t (φ x) e = some e1 ∧ Wp (it1 e1) (fun zs e2 => zs = (ys x).map ψ ∧ forgetL vs1 e2 = em x) ∧ forgetL vs (em x) = e ∧ ∀ y ∈ ys x, ∃ e3, t1 (ψ y) (em x) = some e3 ∧ Wp (f e3) fun d e4 => d = g x y ∧ forgetL vs1 e4 = em x) →
    acc.length + (xs.flatMap ys).length ≤ 16777216 → Z (acc ++ xs.flatMap fun x => (ys x).map (g x)) e → Wp (comp2E vs t it1 vs1 t1 f (xs.map φ) acc e) Z
  | [], acc, _, _, q => by
    rw [List.flatMap_nil, List.append_nil] at q
    rw [List.map_nil]
    unfold comp2E
    exact wp_ok.mpr q
  | x :: xs, acc, h, hl, q => by
    obtain ⟨e1, h1, h2, h3, h4⟩ := h x (List.mem_cons_self ..)
    obtain ⟨zs, e2, h5, rfl, h6⟩ := quiet_of h2
    rw [List.flatMap_cons, List.length_append] at hl
    rw [List.map_cons]
    unfold comp2E
    rw [h1]
    show Wp ((it1 e1).quiet.bind _) Z
    rw [h5]
    show Wp (if acc.length + ((ys x).map ψ).length ≤ 16777216 then (compE vs1 t1 mYes f ((ys x).map ψ) acc (forgetL vs1 e2)).bind fun acc e3 => comp2E vs t it1 vs1 t1 f (xs.map φ) acc (forgetL vs e3) else .stuck) Z
    rw [if_pos (by rw [List.length_map]; omega), h6, comp_acc ψ (g x) (ys x) acc h4]
    show Wp (comp2E vs t it1 vs1 t1 f (xs.map φ) (acc ++ (ys x).map (g x)) (forgetL vs (em x))) Z
    rw [h3]
    refine wp_comp2A φ ψ ys g em xs _ (fun z hz => h z (List.mem_cons_of_mem _ hz)) (by rw [List.length_append, List.length_map]; omega) ?_
    rw [List.flatMap_cons, ← List.append_assoc] at q
    exact q
end
end Lp

namespace Lp
open PySem PySem.Spec L2
set_option autoImplicit false
section
variable {K : PySem.W.Frag} {ax : Ax} {W : Wd} {B B' H H' : Hp} {σ : L2.St} {env : Env'} {X : Cx} {v : V}
/-! ### a dict that was just displayed, as data -/
theorem SIV.freezeTV {kvs : List (List Int × D)} (h : SIV K W B H σ env v (.dcT kvs)) : ∃ B', Same B B' ∧ SI K W B' H σ env ∧ Rp K B' v (dctD kvs) := by
  obtain ⟨g, F, Fv, s, ⟨p, L, rfl, hpF, o, hp, t, hk, rs⟩, hm, hd⟩ := h
  have sb : Same B (upd B p (DicO p L)) := fun b u e => by rw [upd_ne (ne_of_none e o.nb)]; exact e
  refine ⟨_, sb, ⟨⟨g.b.trans sb, fun b u e => ?_, fun a h1 h2 h3 => ?_, g.keep, g.st⟩, F, s.grow sb (fun i a ha hb => ?_) fun _ _ _ _ h => h⟩, ?_⟩
  · by_cases q : b = p
    · subst q; rw [upd_same] at e; cases e; exact hp
    · rw [upd_ne q] at e; exact g.bh _ _ e
  · have : a ≠ p := fun q => by
      subst q
      rcases o.fr with z | z
      · rw [z] at h2; exact h2
      · exact h3 z
    rw [upd_ne this]; exact g.fr a h1 h2 h3
  · have : a ≠ p := fun q => hd i a ha (q ▸ hpF)
    rw [upd_ne this]; exact hb
  · have := Rp.dcx (K := K) (B := upd B p (DicO p L)) (L := L) upd_same (fun q hq => Same.sqT sb (t q hq)) (rs.mono sb)
    rw [dcx_eq hk] at this
    exact this
def mFzT (f : M Sl) : M D := fun e => (f e).bind fun r e => match r with
  | .dcT kvs => .ok (dctD kvs) e
  | _ => .stuck
theorem sd_fzT {te : TE} {f : M Sl} (h : SO K ax te f) : SD K ax te (mFzT f) := fun W B H σ env Q si gd => by
  refine h W B H σ env Q si ?_
  have gd' : Good (RD K) K ax W σ B Q ((f env).bind fun r e => match r with | .dcT kvs => .ok (dctD kvs) e | _ => .stuck) := gd
  cases q : f env with
  | stuck => rw [q] at gd'; exact gd'
  | err k d e => rw [q] at gd'; exact gd'
  | ok r e =>
    rw [q] at gd'
    intro v B1 H1 s1 siv
    cases r with
    | dcT kvs =>
      obtain ⟨B2, s2, si2, r2⟩ := siv.freezeTV
      exact gd' v B2 H1 (s1.trans s2) si2 r2
    | _ => exact gd'.elim
theorem md_fzT {e : Expr} {f : M Sl} (h : MO ax X e f) : MD ax X e (mFzT f) := let ⟨_, p, s⟩ := h; ⟨_, p, sd_fzT s⟩
end
theorem i_fzT {V : D → Env' → Prop} {f : M Sl} {e : Env'} (q : Wp (f e) fun r e => ∃ kvs, r = .dcT kvs ∧ V (dctD kvs) e) : Wp (mFzT f e) V := by
  obtain ⟨r, e1, h1, kvs, rfl, h2⟩ := q.ex
  unfold mFzT
  rw [h1]
  exact wp_ok.mpr h2
end Lp

/-! ### how often a polynomial isn't 0 on a grid (Alon and Füredi) -/
namespace AF
/-- p is 0 or a prime -/
def Dom (p : Int) : Prop := (∀ a b : Int, p ∣ a * b → p ∣ a ∨ p ∣ b) ∧ ¬ p ∣ 1
/-! rows of coefficients, the lowest first -/
def hv : List Int → Int → Int
  | [], _ => 0
  | a :: r, x => a + x * hv r x
theorem hv_snoc (b x : Int) : ∀ l : List Int, hv (l ++ [b]) x = hv l x + b * x ^ l.length
  | [] => by simp [hv]
  | a :: l => by
    show a + x * hv (l ++ [b]) x = a + x * hv l x + b * x ^ (l.length + 1)
    rw [hv_snoc b x l, Int.pow_succ, Int.mul_add]
    have : x * (b * x ^ l.length) = b * (x ^ l.length * x) := by rw [Int.mul_left_comm, Int.mul_comm x]
    omega
def addL : List Int → List Int → List Int
  | a :: l, b :: m => (a + b) :: addL l m
  | _, _ => []
theorem addL_len : ∀ {l m : List Int}, l.length = m.length → (addL l m).length = l.length
  | [], [], _ => rfl
  | _ :: _, [], h => by cases h
  | [], _ :: _, h => by cases h
  | _ :: l, _ :: m, h => by
    show (addL l m).length + 1 = l.length + 1
    rw [addL_len (by simpa using h)]
theorem hv_add (x : Int) : ∀ {l m : List Int}, l.length = m.length → hv (addL l m) x = hv l x + hv m x
  | [], [], _ => rfl
  | _ :: _, [], h => by cases h
  | [], _ :: _, h => by cases h
  | a :: l, b :: m, h => by
    show a + b + x * hv (addL l m) x = a + x * hv l x + (b + x * hv m x)
    rw [hv_add x (by simpa using h), Int.mul_add]; omega
theorem hv_scale (k x : Int) : ∀ l : List Int, hv (l.map (k * ·)) x = k * hv l x
  | [] => by simp [hv]
  | a :: l => by
    show k * a + x * hv (l.map (k * ·)) x = k * (a + x * hv l x)
    rw [hv_scale k x l, Int.mul_add, Int.mul_left_comm]
/-- x to the number of elements, by lower powers -/
theorem vanish : ∀ S : List Int, ∃ es : List Int, es.length = S.length ∧ ∀ x ∈ S, x ^ S.length = hv es x
  | [] => ⟨[], rfl, by simp⟩
  | a :: T => by
    obtain ⟨es, hl, h⟩ := vanish T
    have hlen : (0 :: es).length = (es.map ((-a) * ·) ++ [a]).length := by simp
    refine ⟨addL (0 :: es) (es.map ((-a) * ·) ++ [a]), by rw [addL_len hlen]; simp [hl], fun x hx => ?_⟩
    rw [hv_add x hlen, hv_snoc, hv_scale, List.length_map, hl, List.length_cons, Int.pow_succ]
    show x ^ T.length * x = 0 + x * hv es x + (-a * hv es x + a * x ^ T.length)
    rcases List.mem_cons.mp hx with rfl | hx
    · rw [Int.neg_mul, Int.mul_comm x (x ^ T.length)]; omega
    · rw [h x hx, Int.neg_mul, Int.mul_comm x (hv es x)]; omega
theorem hv_rep (n : Nat) (x : Int) : hv (List.replicate n 0) x = 0 := by
  induction n with
  | zero => rfl
  | succ n ih =>
    show 0 + x * hv (List.replicate n 0) x = 0
    rw [ih]; simp
theorem hv_append (x : Int) : ∀ (l m : List Int), hv (l ++ m) x = hv l x + x ^ l.length * hv m x
  | [], m => by simp [hv]
  | a :: l, m => by
    show a + x * hv (l ++ m) x = a + x * hv l x + x ^ (l.length + 1) * hv m x
    rw [hv_append x l m, Int.mul_add, Int.pow_succ, Int.mul_comm (x ^ l.length) x, Int.mul_assoc]; omega
theorem red (S : List Int) (j : Nat) : ∃ cs : List Int, cs.length = S.length ∧ (∀ x ∈ S, x ^ j = hv cs x) ∧ ∀ i, j < i → cs.getD i 0 = 0 := by
  obtain ⟨es, el, eh⟩ := vanish S
  induction j with
  | zero =>
    cases hS : S with
    | nil => exact ⟨[], rfl, by simp, by simp⟩
    | cons a T =>
      refine ⟨1 :: List.replicate T.length 0, by simp, fun x _ => ?_, fun i hi => ?_⟩
      · show x ^ 0 = 1 + x * hv (List.replicate T.length 0) x
        rw [hv_rep]; simp
      · cases i with
        | zero => omega
        | succ i =>
          show (List.replicate T.length (0 : Int)).getD i 0 = 0
          rw [List.getD_eq_getElem?_getD, List.getElem?_replicate]
          split <;> rfl
  | succ j ih =>
    by_cases hj : j + 1 < S.length
    · refine ⟨List.replicate (j + 1) 0 ++ (1 :: List.replicate (S.length - (j + 2)) 0), by simp; omega, fun x _ => ?_, fun i hi => ?_⟩
      · rw [hv_append, hv_rep, List.length_replicate]
        show x ^ (j + 1) = 0 + x ^ (j + 1) * (1 + x * hv (List.replicate (S.length - (j + 2)) 0) x)
        rw [hv_rep]; simp
      · rw [List.getD_eq_getElem?_getD, List.getElem?_append_right (by simp; omega), List.length_replicate]
        obtain ⟨k, hk⟩ : ∃ k, i - (j + 1) = k + 1 := ⟨i - (j + 2), by omega⟩
        rw [hk, List.getElem?_cons_succ, List.getElem?_replicate]
        split <;> rfl
    · obtain ⟨cs, cl, ch, _⟩ := ih
      cases hc : cs.reverse with
      | nil =>
        have : cs = [] := by simpa using hc
        subst this
        have : S = [] := List.length_eq_zero_iff.mp (by simpa using cl.symm)
        subst this
        exact ⟨[], rfl, by simp, by simp⟩
      | cons b l =>
        have e : cs = l.reverse ++ [b] := by
          have := congrArg List.reverse hc
          simpa using this
        have hl2 : l.length + 1 = S.length := by rw [← cl, e]; simp
        have hlen : (0 :: l.reverse).length = (es.map (b * ·)).length := by simp [el, hl2]
        refine ⟨addL (0 :: l.reverse) (es.map (b * ·)), by rw [addL_len hlen]; simp [hl2], fun x hx => ?_, fun i hi => ?_⟩
        · rw [hv_add x hlen, hv_scale, ← eh x hx, Int.pow_succ, ch x hx, e, hv_snoc]
          show (hv l.reverse x + b * x ^ l.reverse.length) * x = 0 + x * hv l.reverse x + b * x ^ S.length
          rw [List.length_reverse, ← hl2, Int.pow_succ, Int.add_mul, Int.mul_assoc, Int.mul_comm x (hv l.reverse x)]; omega
        · rw [List.getD_eq_getElem?_getD, List.getElem?_eq_none (by rw [addL_len hlen]; simp; omega)]; rfl
/-! few zeros of a row of coefficients -/
def quo (a : Int) : List Int → List Int
  | [] => []
  | [_] => []
  | _ :: b :: r => hv (b :: r) a :: quo a (b :: r)
theorem quo_len (a : Int) : ∀ (c : Int) (r : List Int), (quo a (c :: r)).length = r.length
  | _, [] => rfl
  | _, b :: r => by
    show (quo a (b :: r)).length + 1 = r.length + 1
    rw [quo_len a b r]
theorem quo_hv (a x : Int) : ∀ (c : Int) (r : List Int), hv (c :: r) x = (x - a) * hv (quo a (c :: r)) x + hv (c :: r) a
  | c, [] => by simp [hv, quo]
  | c, b :: r => by
    have ih := quo_hv a x b r
    show c + x * hv (b :: r) x = (x - a) * (hv (b :: r) a + x * hv (quo a (b :: r)) x) + (c + a * hv (b :: r) a)
    generalize hv (b :: r) a = A at ih ⊢
    generalize hv (quo a (b :: r)) x = Q at ih ⊢
    rw [ih]
    have e1 : x * ((x - a) * Q + A) = x * ((x - a) * Q) + x * A := Int.mul_add ..
    have e2 : (x - a) * (A + x * Q) = (x - a) * A + (x - a) * (x * Q) := Int.mul_add ..
    have e3 : (x - a) * (x * Q) = x * ((x - a) * Q) := Int.mul_left_comm ..
    have e4 : (x - a) * A = x * A - a * A := Int.sub_mul ..
    omega
theorem quo_last (a : Int) : ∀ (c b : Int) (r : List Int), (quo a (c :: b :: r)).getLast? = (b :: r).getLast?
  | c, b, [] => by simp [quo, hv]
  | c, b, d :: r => by
    have ih := quo_last a b d r
    have h : quo a (c :: b :: d :: r) = hv (b :: d :: r) a :: quo a (b :: d :: r) := rfl
    have h2 : quo a (b :: d :: r) = hv (d :: r) a :: quo a (d :: r) := rfl
    rw [h, h2, List.getLast?_cons_cons, ← h2, ih, List.getLast?_cons_cons]
def Distinct (p : Int) (S : List Int) : Prop := S.Pairwise fun a b => ¬ p ∣ a - b
theorem neg_dvd {p a b : Int} (h : ¬ p ∣ a - b) : ¬ p ∣ b - a := fun z => h (by
  have := Int.dvd_neg.mpr z
  rwa [Int.neg_sub] at this)
theorem roots {p : Int} (hp : Dom p) : ∀ (r : Nat) (cs S : List Int) (t : Int), cs.length = r + 1 → cs.getLast? = some t → ¬ p ∣ t → Distinct p S → (S.filter fun x => decide (p ∣ hv cs x)).length ≤ r
  | 0, cs, S, t, hl, ht, hnt, _ => by
    match cs, hl with
    | [a], _ =>
      have : a = t := by simpa using ht
      subst this
      rw [List.filter_eq_nil_iff.mpr fun x _ => by simpa [hv] using hnt]
      simp
  | r + 1, cs, S, t, hl, ht, hnt, hd => by
    by_cases z : ∃ a ∈ S, p ∣ hv cs a
    case neg =>
      rw [List.filter_eq_nil_iff.mpr fun x hx => by
        rw [decide_eq_true_eq]
        exact fun h => z ⟨x, hx, h⟩]
      simp
    obtain ⟨a, ha, hr⟩ := z
    match cs, hl with
    | c :: b :: l, hl =>
      have hql : (quo a (c :: b :: l)).length = r + 1 := by
        rw [quo_len]; simpa using hl
      have hqt : (quo a (c :: b :: l)).getLast? = some t := by
        rw [quo_last, ← ht, List.getLast?_cons_cons]
      have hperm : S.Perm (a :: S.erase a) := List.perm_cons_erase ha
      have hd2 : Distinct p (a :: S.erase a) := (hperm.pairwise_iff fun {x y} h => neg_dvd h).mp hd
      rw [Distinct, List.pairwise_cons] at hd2
      have ih := roots hp r (quo a (c :: b :: l)) (S.erase a) t hql hqt hnt hd2.2
      rw [(hperm.filter _).length_eq, List.filter_cons]
      have sub : ((S.erase a).filter fun x => decide (p ∣ hv (c :: b :: l) x)).length ≤ ((S.erase a).filter fun x => decide (p ∣ hv (quo a (c :: b :: l)) x)).length := by
        refine (List.Sublist.length_le ?_)
        have e : ((S.erase a).filter fun x => decide (p ∣ hv (c :: b :: l) x)) = ((S.erase a).filter fun x => decide (p ∣ hv (quo a (c :: b :: l)) x)).filter fun x => decide (p ∣ hv (c :: b :: l) x) := by
          rw [List.filter_filter]
          refine List.filter_congr fun x hx => ?_
          cases h : decide (p ∣ hv (c :: b :: l) x) with
          | false => rfl
          | true =>
            have h := of_decide_eq_true h
            rw [quo_hv a x] at h
            have h2 : p ∣ (x - a) * hv (quo a (c :: b :: l)) x := (Int.dvd_add_left hr).mp h
            rcases hp.1 _ _ h2 with h3 | h3
            · exact absurd h3 (neg_dvd (hd2.1 x hx))
            · rw [decide_eq_true h3]; rfl
        rw [e]
        exact List.filter_sublist
      split
      · rw [List.length_cons]; omega
      · omega
/-! polynomials on a grid -/
abbrev PT := List Nat × Int
def mono : List Nat → List Int → Int
  | k :: ks, x :: xs => x ^ k * mono ks xs
  | _, _ => 1
def ev (f : List PT) (pt : List Int) : Int := (f.map fun t => t.2 * mono t.1 pt).sum
theorem ev_append (f g : List PT) (pt : List Int) : ev (f ++ g) pt = ev f pt + ev g pt := by unfold ev; rw [List.map_append, List.sum_append]
theorem ev_cons (t : PT) (f : List PT) (pt : List Int) : ev (t :: f) pt = t.2 * mono t.1 pt + ev f pt := by unfold ev; rw [List.map_cons, List.sum_cons]
def grid : List (List Int) → List (List Int)
  | [] => [[]]
  | S :: R => S.flatMap fun x => (grid R).map (x :: ·)
def part (cs : Nat → List Int) (i : Nat) (t : PT) : List PT := match t.1 with
  | [] => []
  | k :: ks => if i ≤ k then [(ks, t.2 * (cs k).getD i 0)] else []
def slice (cs : Nat → List Int) (i : Nat) (f : List PT) : List PT := f.flatMap (part cs i)
theorem hv_map_add {α : Type} (A B : α → Int) (x : Int) : ∀ l : List α, hv (l.map fun i => A i + B i) x = hv (l.map A) x + hv (l.map B) x
  | [] => rfl
  | i :: l => by
    show A i + B i + x * hv (l.map fun i => A i + B i) x = A i + x * hv (l.map A) x + (B i + x * hv (l.map B) x)
    rw [hv_map_add A B x l, Int.mul_add]; omega
theorem hv_map_scale {α : Type} (m : Int) (A : α → Int) (x : Int) : ∀ l : List α, hv (l.map fun i => m * A i) x = m * hv (l.map A) x
  | [] => by simp [hv]
  | i :: l => by
    show m * A i + x * hv (l.map fun i => m * A i) x = m * (A i + x * hv (l.map A) x)
    rw [hv_map_scale m A x l, Int.mul_add, Int.mul_left_comm]
theorem range_getD (cs : List Int) : (List.range cs.length).map (fun i => cs.getD i 0) = cs := by
  refine List.ext_getElem (by simp) fun i h1 h2 => ?_
  rw [List.getElem_map, List.getElem_range, List.getD_eq_getElem?_getD, List.getElem?_eq_getElem h2]; rfl
theorem slice_ev {cs : Nat → List Int} {s n : Nat} {x : Int} (hx : ∀ k, x ^ k = hv (cs k) x) (hl : ∀ k, (cs k).length = s) (hz : ∀ k i, k < i → (cs k).getD i 0 = 0) (y : List Int) : ∀ f : List PT, (∀ t ∈ f, t.1.length = n + 1) → ev f (x :: y) = hv ((List.range s).map fun i => ev (slice cs i f) y) x
  | [], _ => by
    have e : ((List.range s).map fun i => ev (slice cs i []) y) = List.replicate s 0 := by
      rw [List.eq_replicate_iff]
      refine ⟨by simp, fun b hb => ?_⟩
      obtain ⟨i, _, rfl⟩ := List.mem_map.mp hb
      rfl
    rw [e, hv_rep]; rfl
  | t :: f, h => by
    have ih := slice_ev hx hl hz y f fun u hu => h u (List.mem_cons_of_mem _ hu)
    obtain ⟨ks0, c⟩ := t
    match ks0, h (ks0, c) (List.mem_cons_self ..) with
    | k :: ks, _ =>
      have e : ((List.range s).map fun i => ev (slice cs i ((k :: ks, c) :: f)) y) = (List.range s).map fun i => (c * mono ks y) * (cs k).getD i 0 + ev (slice cs i f) y := by
        refine List.map_congr_left fun i _ => ?_
        show ev (part cs i (k :: ks, c) ++ slice cs i f) y = _
        rw [ev_append]
        congr 1
        show ev (if i ≤ k then [(ks, c * (cs k).getD i 0)] else []) y = _
        by_cases z : i ≤ k
        · rw [if_pos z]
          show c * (cs k).getD i 0 * mono ks y + 0 = _
          rw [Int.add_zero, Int.mul_assoc, Int.mul_assoc, Int.mul_comm ((cs k).getD i 0)]
        · rw [if_neg z, hz k i (by omega), Int.mul_zero]; rfl
      rw [e, hv_map_add, hv_map_scale, ← ih, ev_cons]
      show c * (x ^ k * mono ks y) + ev f (x :: y) = c * mono ks y * hv ((List.range s).map fun i => (cs k).getD i 0) x + ev f (x :: y)
      have e2 : ((List.range s).map fun i => (cs k).getD i 0) = cs k := by rw [← hl k, range_getD]
      rw [e2, ← hx k, Int.mul_assoc, Int.mul_comm (mono ks y)]
theorem maxp (P : Nat → Prop) : ∀ s : Nat, (∃ i, i < s ∧ P i) → ∃ r, r < s ∧ P r ∧ ∀ i, r < i → i < s → ¬ P i
  | 0, ⟨i, h, _⟩ => by omega
  | s + 1, ⟨i, h, hi⟩ => by
    by_cases z : P s
    · exact ⟨s, by omega, z, fun j h1 h2 => by omega⟩
    · have hs : i < s := by
        by_cases e : i = s
        · rw [e] at hi; exact absurd hi z
        · omega
      obtain ⟨r, h1, h2, h3⟩ := maxp P s ⟨i, hs, hi⟩
      refine ⟨r, by omega, h2, fun j h4 h5 => ?_⟩
      by_cases e : j = s
      · rw [e]; exact z
      · exact h3 j h4 (by omega)
def cnt {α : Type} (P : α → Bool) (l : List α) : Nat := (l.filter P).length
theorem cnt_cons {α : Type} (P : α → Bool) (a : α) (l : List α) : cnt P (a :: l) = (if P a = true then 1 else 0) + cnt P l := by
  unfold cnt
  rw [List.filter_cons]
  split
  · rw [List.length_cons]; omega
  · omega
theorem cnt_append {α : Type} (P : α → Bool) (l m : List α) : cnt P (l ++ m) = cnt P l + cnt P m := by
  unfold cnt
  rw [List.filter_append, List.length_append]
theorem cnt_map {α β : Type} (P : β → Bool) (g : α → β) (l : List α) : cnt P (l.map g) = cnt (fun a => P (g a)) l := by
  unfold cnt
  rw [List.filter_map, List.length_map]; rfl
theorem cnt_not {α : Type} (P : α → Bool) (l : List α) : cnt P l + cnt (fun a => !P a) l = l.length := by
  induction l with
  | nil => rfl
  | cons a l ih =>
    rw [cnt_cons, cnt_cons, List.length_cons]
    cases P a <;> simp <;> omega
theorem cnt_flat (P : List Int → Bool) (l : List (List Int)) : ∀ S : List Int, cnt P (S.flatMap fun x => l.map (x :: ·)) = (S.map fun x => cnt (fun y => P (x :: y)) l).sum
  | [] => rfl
  | x :: S => by
    rw [List.flatMap_cons, cnt_append, cnt_map, cnt_flat P l S, List.map_cons, List.sum_cons]
theorem cnt_swap (P : List Int → Bool) (S : List Int) : ∀ l : List (List Int), (S.map fun x => cnt (fun y => P (x :: y)) l).sum = (l.map fun y => cnt (fun x => P (x :: y)) S).sum
  | [] => by
    show (S.map fun _ => 0).sum = 0
    induction S with
    | nil => rfl
    | cons x S ih => rw [List.map_cons, List.sum_cons, ih, Nat.add_zero]
  | y :: l => by
    rw [List.map_cons, List.sum_cons, ← cnt_swap P S l]
    induction S with
    | nil => rfl
    | cons x S ih =>
      rw [List.map_cons, List.sum_cons, ih, cnt_cons, cnt_cons, List.map_cons, List.sum_cons]
      omega
theorem sum_ge (m : Nat) (g : List Int → Nat) (P : List Int → Bool) : ∀ l : List (List Int), (∀ y ∈ l, P y = true → m ≤ g y) → m * cnt P l ≤ (l.map g).sum
  | [], _ => by simp [cnt]
  | y :: l, h => by
    have ih := sum_ge m g P l fun z hz => h z (List.mem_cons_of_mem _ hz)
    rw [cnt_cons, List.map_cons, List.sum_cons, Nat.mul_add]
    by_cases z : P y = true
    · rw [if_pos z]
      have := h y (List.mem_cons_self ..) z
      omega
    · rw [if_neg z]; omega
def Fit : List Nat → List (List Int) → Prop
  | [], [] => True
  | a :: x, S :: R => (1 ≤ a ∧ a ≤ S.length) ∧ Fit x R
  | _, _ => False
def prodN : List Nat → Nat
  | [] => 1
  | a :: x => a * prodN x
theorem hv_dvd {p x : Int} : ∀ {cs : List Int}, (∀ c ∈ cs, p ∣ c) → p ∣ hv cs x
  | [], _ => ⟨0, by simp [hv]⟩
  | c :: cs, h => Int.dvd_add (h c (List.mem_cons_self ..)) (Int.dvd_trans (hv_dvd fun d hd => h d (List.mem_cons_of_mem _ hd)) ⟨x, Int.mul_comm ..⟩)
/-- Alon and Füredi -/
theorem main {p : Int} (hp : Dom p) : ∀ (rows : List (List Int)) (f : List PT) (d : Nat), (∀ S ∈ rows, Distinct p S) → (∀ t ∈ f, t.1.length = rows.length ∧ t.1.sum ≤ d) → (∃ pt ∈ grid rows, ¬ p ∣ ev f pt) →
    ∃ x, Fit x rows ∧ (rows.map List.length).sum ≤ x.sum + d ∧ prodN x ≤ cnt (fun pt => !decide (p ∣ ev f pt)) (grid rows)
  | [], f, d, _, _, ⟨pt, hpt, hne⟩ => by
    refine ⟨[], trivial, Nat.zero_le _, ?_⟩
    have : pt = [] := List.mem_singleton.mp hpt
    subst this
    show 1 ≤ cnt _ [[]]
    rw [cnt_cons, decide_eq_false hne]
    simp
  | S :: R, f, d, hS, hf, ⟨pt, hpt, hne⟩ => by
    have hSd := hS S (List.mem_cons_self ..)
    have hcs : ∀ k, ∃ cs : List Int, cs.length = S.length ∧ (∀ x ∈ S, x ^ k = hv cs x) ∧ ∀ i, k < i → cs.getD i 0 = 0 := red S
    let cs : Nat → List Int := fun k => (hcs k).choose
    have h1 : ∀ k, (cs k).length = S.length := fun k => (hcs k).choose_spec.1
    have h2 : ∀ k, ∀ x ∈ S, x ^ k = hv (cs k) x := fun k => (hcs k).choose_spec.2.1
    have h3 : ∀ k i, k < i → (cs k).getD i 0 = 0 := fun k => (hcs k).choose_spec.2.2
    generalize cs = cs at h1 h2 h3
    have hev : ∀ x ∈ S, ∀ y, ev f (x :: y) = hv ((List.range S.length).map fun i => ev (slice cs i f) y) x := fun x hx y => slice_ev (n := R.length) (fun k => h2 k x hx) h1 h3 y f fun t ht => (hf t ht).1
    have hdeg : ∀ i, ∀ t ∈ slice cs i f, t.1.length = R.length ∧ t.1.sum ≤ d - i ∧ i ≤ d := fun i t ht => by
      obtain ⟨u, hu, hp2⟩ := List.mem_flatMap.mp ht
      obtain ⟨u1, u2⟩ := hf u hu
      obtain ⟨uk, uc⟩ := u
      match uk, u1, u2, hp2 with
      | k :: ks, u1, u2, hp2 =>
        have hp3 : t ∈ (if i ≤ k then [(ks, uc * (cs k).getD i 0)] else []) := hp2
        by_cases z : i ≤ k
        · rw [if_pos z] at hp3
          rw [List.mem_singleton.mp hp3]
          have u2' : k + ks.sum ≤ d := by simpa using u2
          refine ⟨by simpa using u1, ?_, by omega⟩
          show ks.sum ≤ d - i
          omega
        · rw [if_neg z] at hp3; cases hp3
    obtain ⟨x0, hx0, hpt2⟩ := List.mem_flatMap.mp hpt
    obtain ⟨y0, hy0, rfl⟩ := List.mem_map.mp hpt2
    rw [hev x0 hx0] at hne
    have hex : ∃ i, i < S.length ∧ ∃ y ∈ grid R, ¬ p ∣ ev (slice cs i f) y := by
      by_cases z : ∃ i, i < S.length ∧ ∃ y ∈ grid R, ¬ p ∣ ev (slice cs i f) y
      · exact z
      · refine absurd (hv_dvd fun c hc => ?_) hne
        obtain ⟨i, hi, rfl⟩ := List.mem_map.mp hc
        by_cases z2 : p ∣ ev (slice cs i f) y0
        · exact z2
        · exact absurd ⟨i, List.mem_range.mp hi, y0, hy0, z2⟩ z
    obtain ⟨r, hr, ⟨y1, hy1, hne1⟩, hmax⟩ := maxp (fun i => ∃ y ∈ grid R, ¬ p ∣ ev (slice cs i f) y) S.length hex
    obtain ⟨x', f1, f2, f3⟩ := main hp R (slice cs r f) (d - r) (fun T hT => hS T (List.mem_cons_of_mem _ hT)) (fun t ht => ⟨(hdeg r t ht).1, (hdeg r t ht).2.1⟩) ⟨y1, hy1, hne1⟩
    have hrd : r ≤ d := by
      cases hsl : slice cs r f with
      | nil =>
        rw [hsl] at hne1
        exact absurd (⟨0, (Int.mul_zero p).symm⟩ : p ∣ ev [] y1) hne1
      | cons t l => exact (hdeg r t (by rw [hsl]; exact List.mem_cons_self ..)).2.2
    refine ⟨(S.length - r) :: x', ⟨⟨by omega, by omega⟩, f1⟩, ?_, ?_⟩
    · rw [List.map_cons, List.sum_cons, List.sum_cons]; omega
    · show (S.length - r) * prodN x' ≤ cnt _ (S.flatMap fun x => (grid R).map (x :: ·))
      rw [cnt_flat, cnt_swap (fun pt => !decide (p ∣ ev f pt)) S]
      refine Nat.le_trans (Nat.mul_le_mul_left _ f3) (sum_ge _ _ _ _ fun y hy hny => ?_)
      have hny : ¬ p ∣ ev (slice cs r f) y := by simpa using hny
      have hroot : ∀ x ∈ S, (p ∣ ev f (x :: y)) ↔ p ∣ hv ((List.range (r + 1)).map fun i => ev (slice cs i f) y) x := fun x hx => by
        rw [hev x hx]
        obtain ⟨m, hm⟩ : ∃ m, S.length = (r + 1) + m := ⟨S.length - (r + 1), by omega⟩
        rw [hm, List.range_add, List.map_append, hv_append]
        refine Int.dvd_add_left (Int.dvd_trans (hv_dvd fun c hc => ?_) ⟨x ^ ((List.range (r + 1)).map fun i => ev (slice cs i f) y).length, Int.mul_comm ..⟩)
        obtain ⟨i, hi, rfl⟩ := List.mem_map.mp hc
        obtain ⟨j, hj, rfl⟩ := List.mem_map.mp hi
        have hj := List.mem_range.mp hj
        by_cases z2 : p ∣ ev (slice cs (r + 1 + j) f) y
        · exact z2
        · exact absurd ⟨y, hy, z2⟩ (hmax (r + 1 + j) (by omega) (by omega))
      have hlast : ((List.range (r + 1)).map fun i => ev (slice cs i f) y).getLast? = some (ev (slice cs r f) y) := by
        rw [List.range_succ, List.map_append, List.map_singleton, List.getLast?_append]; rfl
      have hrt := roots hp r _ S _ (by rw [List.length_map, List.length_range]) hlast hny hSd
      have hc := cnt_not (fun x => decide (p ∣ ev f (x :: y))) S
      have he : cnt (fun x => decide (p ∣ ev f (x :: y))) S ≤ r := by
        refine Nat.le_trans (Nat.le_of_eq ?_) hrt
        unfold cnt
        congr 1
        refine List.filter_congr fun x hx => ?_
        exact decide_eq_decide.mpr (hroot x hx)
      omega
end AF

namespace AF
/-! sums, products of polynomials -/
theorem mono_add : ∀ (ks ls : List Nat) (xs : List Int), ks.length = xs.length → ls.length = xs.length → mono (List.zipWith (· + ·) ks ls) xs = mono ks xs * mono ls xs
  | [], [], [], _, _ => rfl
  | k :: ks, l :: ls, x :: xs, h1, h2 => by
    show x ^ (k + l) * mono (List.zipWith (· + ·) ks ls) xs = x ^ k * mono ks xs * (x ^ l * mono ls xs)
    rw [mono_add ks ls xs (by simpa using h1) (by simpa using h2), Int.pow_add, Int.mul_assoc, Int.mul_assoc]
    congr 1
    rw [Int.mul_left_comm]
  | [], _ :: _, [], _, h => by cases h
  | _ :: _, _, [], h, _ => by cases h
  | [], _, _ :: _, h, _ => by cases h
  | _ :: _, [], _ :: _, _, h => by cases h
def Ok (n d : Nat) (f : List PT) : Prop := ∀ t ∈ f, t.1.length = n ∧ t.1.sum ≤ d
theorem Ok.mono {n d e : Nat} {f : List PT} (h : Ok n d f) (hde : d ≤ e) : Ok n e f := fun t ht => ⟨(h t ht).1, Nat.le_trans (h t ht).2 hde⟩
theorem Ok.append {n d : Nat} {f g : List PT} (h : Ok n d f) (h2 : Ok n d g) : Ok n d (f ++ g) := fun t ht => by
  rcases List.mem_append.mp ht with z | z
  · exact h t z
  · exact h2 t z
def pmul (f g : List PT) : List PT := f.flatMap fun t => g.map fun u => (List.zipWith (· + ·) t.1 u.1, t.2 * u.2)
theorem zip_sum : ∀ (ks ls : List Nat), ks.length = ls.length → (List.zipWith (· + ·) ks ls).sum = ks.sum + ls.sum
  | [], [], _ => rfl
  | k :: ks, l :: ls, h => by
    rw [List.zipWith_cons_cons, List.sum_cons, List.sum_cons, List.sum_cons, zip_sum ks ls (by simpa using h)]; omega
  | [], _ :: _, h => by cases h
  | _ :: _, [], h => by cases h
theorem pmul_ok {n d e : Nat} {f g : List PT} (h : Ok n d f) (h2 : Ok n e g) : Ok n (d + e) (pmul f g) := fun t ht => by
  obtain ⟨u, hu, ht⟩ := List.mem_flatMap.mp ht
  obtain ⟨w, hw, rfl⟩ := List.mem_map.mp ht
  have a := h u hu
  have b := h2 w hw
  refine ⟨by rw [List.length_zipWith, a.1, b.1, Nat.min_self], ?_⟩
  show (List.zipWith (· + ·) u.1 w.1).sum ≤ d + e
  rw [zip_sum _ _ (by rw [a.1, b.1])]
  have := a.2; have := b.2; omega
theorem ev_mapmul {n : Nat} {pt : List Int} (hpt : pt.length = n) (t : PT) (ht : t.1.length = n) : ∀ g : List PT, (∀ u ∈ g, u.1.length = n) → ev (g.map fun u => (List.zipWith (· + ·) t.1 u.1, t.2 * u.2)) pt = t.2 * AF.mono t.1 pt * ev g pt
  | [], _ => by simp [ev]
  | u :: g, h => by
    rw [List.map_cons, ev_cons, ev_cons, ev_mapmul hpt t ht g fun w hw => h w (List.mem_cons_of_mem _ hw), Int.mul_add]
    congr 1
    show t.2 * u.2 * AF.mono (List.zipWith (· + ·) t.1 u.1) pt = _
    rw [mono_add _ _ _ (by rw [ht, hpt]) (by rw [h u (List.mem_cons_self ..), hpt])]
    rw [Int.mul_assoc, Int.mul_assoc]
    congr 1
    rw [Int.mul_left_comm]
theorem pmul_ev {n d e : Nat} {pt : List Int} (hpt : pt.length = n) : ∀ {f g : List PT}, Ok n d f → Ok n e g → ev (pmul f g) pt = ev f pt * ev g pt
  | [], g, _, _ => by simp [pmul, ev]
  | t :: f, g, h, h2 => by
    show ev ((g.map fun u => (List.zipWith (· + ·) t.1 u.1, t.2 * u.2)) ++ pmul f g) pt = _
    rw [ev_append, ev_mapmul hpt t (h t (List.mem_cons_self ..)).1 g fun u hu => (h2 u hu).1, pmul_ev hpt (fun u hu => h u (List.mem_cons_of_mem _ hu)) h2, ev_cons, Int.add_mul]
def pone (n : Nat) : List PT := [(List.replicate n 0, 1)]
theorem mono_zero : ∀ (n : Nat) (pt : List Int), AF.mono (List.replicate n 0) pt = 1
  | 0, _ => by cases ‹List Int› <;> rfl
  | n + 1, [] => rfl
  | n + 1, x :: pt => by
    show x ^ 0 * AF.mono (List.replicate n 0) pt = 1
    rw [mono_zero n pt]; simp
theorem pone_ev (n : Nat) (pt : List Int) : ev (pone n) pt = 1 := by
  unfold pone
  rw [ev_cons, mono_zero]
  simp [ev]
theorem pone_ok (n d : Nat) : Ok n d (pone n) := fun t ht => by
  rw [List.mem_singleton.mp ht]
  exact ⟨by simp, by simp⟩
def ppow (n : Nat) (f : List PT) : Nat → List PT
  | 0 => pone n
  | k + 1 => pmul f (ppow n f k)
theorem ppow_ok {n d : Nat} {f : List PT} (h : Ok n d f) : ∀ k, Ok n (k * d) (ppow n f k)
  | 0 => (pone_ok n 0).mono (by omega)
  | k + 1 => (pmul_ok h (ppow_ok h k)).mono (by rw [Nat.succ_mul]; omega)
theorem ppow_ev {n d : Nat} {f : List PT} {pt : List Int} (hpt : pt.length = n) (h : Ok n d f) : ∀ k, ev (ppow n f k) pt = ev f pt ^ k
  | 0 => by
    show ev (pone n) pt = _
    rw [pone_ev]; simp
  | k + 1 => by
    show ev (pmul f (ppow n f k)) pt = _
    rw [pmul_ev hpt h (ppow_ok h k), ppow_ev hpt h k, Int.pow_succ, Int.mul_comm]
def pneg (f : List PT) : List PT := f.map fun t => (t.1, - t.2)
theorem pneg_ok {n d : Nat} {f : List PT} (h : Ok n d f) : Ok n d (pneg f) := fun t ht => by
  obtain ⟨u, hu, rfl⟩ := List.mem_map.mp ht
  exact h u hu
theorem pneg_ev (pt : List Int) : ∀ f : List PT, ev (pneg f) pt = - ev f pt
  | [] => rfl
  | t :: f => by
    show ev ((t.1, - t.2) :: pneg f) pt = _
    rw [ev_cons, ev_cons, pneg_ev pt f, Int.neg_add, Int.neg_mul]
/-- 1 - f ^ k -/
def pnot (n k : Nat) (f : List PT) : List PT := pone n ++ pneg (ppow n f k)
theorem pnot_ok {n d k : Nat} {f : List PT} (h : Ok n d f) : Ok n (k * d) (pnot n k f) := (pone_ok n _).append (pneg_ok (ppow_ok h k))
theorem pnot_ev {n d k : Nat} {f : List PT} {pt : List Int} (hpt : pt.length = n) (h : Ok n d f) : ev (pnot n k f) pt = 1 - ev f pt ^ k := by
  unfold pnot
  rw [ev_append, pone_ev, pneg_ev, ppow_ev hpt h]; omega
/-- the product of all 1 - e ^ k -/
def pall (n k : Nat) : List (List PT) → List PT
  | [] => pone n
  | f :: fs => pmul (pnot n k f) (pall n k fs)
theorem pall_ok {n k : Nat} (dg : List PT → Nat) : ∀ {fs : List (List PT)}, (∀ f ∈ fs, Ok n (dg f) f) → Ok n (k * (fs.map dg).sum) (pall n k fs)
  | [], _ => (pone_ok n 0).mono (by omega)
  | f :: fs, h => (pmul_ok (pnot_ok (k := k) (h f (List.mem_cons_self ..))) (pall_ok dg fun g hg => h g (List.mem_cons_of_mem _ hg))).mono (by rw [List.map_cons, List.sum_cons, Nat.mul_add]; exact Nat.le_refl _)
/-- by Fermat -/
def Fer (p : Int) (k : Nat) : Prop := ∀ a : Int, p ∣ 1 - a ^ k ↔ ¬ p ∣ a
theorem pall_ev {p : Int} {n k : Nat} {pt : List Int} (hp : Dom p) (hF : Fer p k) (hpt : pt.length = n) (dg : List PT → Nat) : ∀ {fs : List (List PT)}, (∀ f ∈ fs, Ok n (dg f) f) → (¬ p ∣ ev (pall n k fs) pt ↔ ∀ f ∈ fs, p ∣ ev f pt)
  | [], _ => by
    show ¬ p ∣ ev (pone n) pt ↔ _
    rw [pone_ev]
    exact ⟨fun _ f hf => (by cases hf), fun _ => hp.2⟩
  | f :: fs, h => by
    have ih := pall_ev hp hF hpt dg (fs := fs) fun g hg => h g (List.mem_cons_of_mem _ hg)
    have hf := h f (List.mem_cons_self ..)
    show ¬ p ∣ ev (pmul (pnot n k f) (pall n k fs)) pt ↔ _
    rw [pmul_ev hpt (pnot_ok (k := k) hf) (pall_ok dg fun g hg => h g (List.mem_cons_of_mem _ hg)), pnot_ev hpt hf]
    have hF' := hF (ev f pt)
    constructor
    · intro hn g hg
      rcases List.mem_cons.mp hg with rfl | hg
      · by_cases z : p ∣ ev g pt
        · exact z
        · exact absurd (Int.dvd_trans (hF'.mpr z) ⟨_, rfl⟩) hn
      · refine ih.mp (fun z => hn ?_) g hg
        exact Int.dvd_trans z ⟨_, Int.mul_comm ..⟩
    · intro ha hd
      rcases hp.1 _ _ hd with z | z
      · exact hF'.mp z (ha f (List.mem_cons_self ..))
      · exact ih.mpr (fun g hg => ha g (List.mem_cons_of_mem _ hg)) z
theorem dom2 : Dom 2 := by
  refine ⟨fun a b h => ?_, by decide⟩
  have := Int.mul_emod a b 2
  have h0 := Int.emod_eq_zero_of_dvd h
  rcases Int.emod_two_eq a with ha | ha
  · exact .inl (Int.dvd_of_emod_eq_zero ha)
  · rcases Int.emod_two_eq b with hb | hb
    · exact .inr (Int.dvd_of_emod_eq_zero hb)
    · rw [ha, hb, h0] at this; cases this
theorem dom3 : Dom 3 := by
  refine ⟨fun a b h => ?_, by decide⟩
  have := Int.mul_emod a b 3
  rw [Int.emod_eq_zero_of_dvd h] at this
  have ha : a % 3 = 0 ∨ a % 3 = 1 ∨ a % 3 = 2 := by omega
  have hb : b % 3 = 0 ∨ b % 3 = 1 ∨ b % 3 = 2 := by omega
  rcases ha with ha | ha | ha
  · exact .inl (Int.dvd_of_emod_eq_zero ha)
  all_goals
    rcases hb with hb | hb | hb
    · exact .inr (Int.dvd_of_emod_eq_zero hb)
    all_goals rw [ha, hb] at this; cases this
theorem dom5 : Dom 5 := by
  refine ⟨fun a b h => ?_, by decide⟩
  have := Int.mul_emod a b 5
  rw [Int.emod_eq_zero_of_dvd h] at this
  have ha : a % 5 = 0 ∨ a % 5 = 1 ∨ a % 5 = 2 ∨ a % 5 = 3 ∨ a % 5 = 4 := by omega
  have hb : b % 5 = 0 ∨ b % 5 = 1 ∨ b % 5 = 2 ∨ b % 5 = 3 ∨ b % 5 = 4 := by omega
  rcases ha with ha | ha | ha | ha | ha
  · exact .inl (Int.dvd_of_emod_eq_zero ha)
  all_goals
    rcases hb with hb | hb | hb | hb | hb
    · exact .inr (Int.dvd_of_emod_eq_zero hb)
    all_goals rw [ha, hb] at this; cases this
theorem pow_emod (p a : Int) : ∀ k : Nat, a ^ k % p = (a % p) ^ k % p
  | 0 => by simp
  | k + 1 => by
    have h1 : a ^ (k + 1) % p = (a % p) ^ k % p * (a % p) % p := by rw [Int.pow_succ, Int.mul_emod, pow_emod p a k]
    have h2 : (a % p) ^ (k + 1) % p = (a % p) ^ k % p * (a % p) % p := by
      rw [Int.pow_succ, Int.mul_emod]
      congr 2
      exact Int.emod_emod a p
    rw [h1, h2]
theorem fer_of {p : Int} {k : Nat} (h0 : (1 - 0 ^ k % p) % p ≠ 0) (h : ∀ r, 0 < r → r < p → (1 - r ^ k % p) % p = 0) (hp : 0 < p) : Fer p k := fun a => by
  have e : (1 - a ^ k) % p = (1 - (a % p) ^ k % p) % p := by
    rw [Int.sub_emod, pow_emod p a k, ← Int.sub_emod, Int.sub_emod 1 ((a % p) ^ k % p), Int.emod_emod, ← Int.sub_emod]
  rw [Int.dvd_iff_emod_eq_zero, Int.dvd_iff_emod_eq_zero, e]
  have h1 := Int.emod_nonneg a (by omega : p ≠ 0)
  have h2 := Int.emod_lt_of_pos a hp
  by_cases z : a % p = 0
  · rw [z]
    exact ⟨fun h => absurd h h0, fun h => absurd rfl h⟩
  · exact ⟨fun _ => z, fun _ => h _ (by omega) h2⟩
theorem fer2 : Fer 2 1 := fer_of (by decide) (fun r h0 h1 => by
  have : r = 1 := by omega
  subst this; decide) (by decide)
theorem fer3 : Fer 3 2 := fer_of (by decide) (fun r h0 h1 => by
  have : r = 1 ∨ r = 2 := by omega
  rcases this with rfl | rfl <;> decide) (by decide)
theorem fer5 : Fer 5 4 := fer_of (by decide) (fun r h0 h1 => by
  have : r = 1 ∨ r = 2 ∨ r = 3 ∨ r = 4 := by omega
  rcases this with rfl | rfl | rfl | rfl <;> decide) (by decide)
end AF

namespace K36
open PySem PySem.Spec PyProof.Rows L2 Lp
set_option autoImplicit false
/-! ### the mirrors -/
def m_unknown : M Ctl := mRet (mTup (mCons (mTup (mCons (mB tupleD (mCons (mFz (mComp [3] (mItO rg1 (mCons (mVar 1) mNil)) (gtN 3) mYes (mIfE (mTst (mOp eqX (mVar 3) (mVar 2))) (mC (.int 1)) (mC (.int 0))))) mNil)) (mCons (mC (.int 1)) mNil))) mNil))
def g_unknown : Env' → Out Sl := gOf 4 3 m_unknown
def m_zero_unknowns : M Ctl := mRet (mB tupleD (mCons (mFz (mComp [3] (mItO rg1 (mCons (mVar 2) mNil)) (gtN 3) mYes (mFz (mCall g_unknown (mCons (mVar 0) (mCons (mVar 1) (mCons (mVar 3) mNil))))))) mNil))
def g_zero_unknowns : Env' → Out Sl := gOf 4 3 m_zero_unknowns
def m__law_element : M Ctl := mRet (mIfE (mTst (mOp eqX (mVar 0) (mC (.int 0)))) (mVar 1) (mOp modD (mB intD (mCons (mVar 1) mNil)) (mVar 0)))
def g__law_element : Env' → Out Sl := gOf 2 2 m__law_element
def m__law_tidy : M Ctl := mRet (mB tupleD (mCons (mFz (mComp [2] (mIt (mFz (mBO sortX (mCons (mVar 1) mNil)))) (gtN 2) (mTst (mOp neX (mFz (mCall g__law_element (mCons (mVar 0) (mCons (mOp idxX (mVar 1) (mVar 2)) mNil)))) (mC (.int 0)))) (mTup (mCons (mVar 2) (mCons (mFz (mCall g__law_element (mCons (mVar 0) (mCons (mOp idxX (mVar 1) (mVar 2)) mNil)))) mNil))))) mNil))
def g__law_tidy : Env' → Out Sl := gOf 3 2 m__law_tidy
def m__law_some : M Ctl := mRet (mIfE (mTst (mOp eqX (mVar 1) (mC (.int 0)))) (mOp subD (mFz (mCallIO 0 g__law_any (mCons (mC (.int 13)) mNil))) (mC (.int 6))) (mFz (mCallIO 0 g__law_any (mCons (mVar 1) mNil))))
def g__law_some : Env' → Out Sl := gOf 2 2 m__law_some
def b1__law_polynomial : M Ctl := mSeq (mAsg 7 (mB tupleD (mCons (mFz (mComp [8] (mItO rg1 (mCons (mVar 2) mNil)) (gtN 8) mYes (mIfE (mTst (mOp gtD (mFz (mCallIO 0 g__law_any (mCons (mC (.int 3)) mNil))) (mC (.int 0)))) (mFz (mCallIO 0 g__law_any (mCons (mOp addD (mVar 4) (mC (.int 1))) mNil))) (mC (.int 0))))) mNil))) (mDPut 5 (mVar 7) (mFz (mCallIO 0 g__law_some (mCons (mVar 1) mNil))))
def m__law_polynomial : M Ctl := mSeq (mAsgO 5 mDNewT) (mSeq (mFor (mItO rg1 (mCons (mFz (mCallIO 0 g__law_any (mCons (mOp addD (mVar 3) (mC (.int 1))) mNil))) mNil)) (gtN 6) b1__law_polynomial []) (mRetO (mCall g__law_tidy (mCons (mVar 1) (mCons (mVar 5) mNil)))))
def g__law_polynomial : Env' → Out Sl := gOf 9 5 m__law_polynomial
def b1__law_choices : M Ctl := mAsg 3 (mOp addD (mVar 3) (mFz (mComp [5] (mIt (mVar 2)) (gtN 5) mYes (mOp addD (mVar 4) (mTup (mCons (mVar 5) mNil))))))
def b2__law_choices : M Ctl := mSeq (mAsg 3 (mFz (mLst mNil))) (mSeq (mFor (mIt (mVar 1)) (gtN 4) b1__law_choices []) (mAsg 1 (mVar 3)))
def m__law_choices : M Ctl := mSeq (mAsg 1 (mFz (mLst (mCons (mTup mNil) mNil)))) (mSeq (mFor (mIt (mVar 0)) (gtN 2) b2__law_choices []) (mRetV 1))
def g__law_choices : Env' → Out Sl := gOf 6 1 m__law_choices
def b1__law_power : M Ctl := mAsg 3 (mFz (mCall g__law_element (mCons (mVar 0) (mCons (mOp mulX (mVar 3) (mVar 1)) mNil))))
def m__law_power : M Ctl := mSeq (mAsg 3 (mC (.int 1))) (mSeq (mFor (mItO rg1 (mCons (mVar 2) mNil)) (gtN 4) b1__law_power []) (mRetV 3))
def g__law_power : Env' → Out Sl := gOf 5 3 m__law_power
def b1__law_worth : M Ctl := mAsg 5 (mOp mulX (mVar 5) (mFz (mCall g__law_power (mCons (mVar 0) (mCons (mOp idxD (mVar 2) (mVar 6)) (mCons (mVar 7) mNil))))))
def b2__law_worth : M Ctl := mSeq (mFor (mItO en1 (mCons (mVar 4) mNil)) (gtTup (gtCons (gtN 6) (gtCons (gtN 7) gtNil))) b1__law_worth []) (mAsg 3 (mFz (mCall g__law_element (mCons (mVar 0) (mCons (mOp addD (mVar 3) (mVar 5)) mNil)))))
def m__law_worth : M Ctl := mSeq (mAsg 3 (mC (.int 0))) (mSeq (mFor (mIt (mVar 1)) (gtTup (gtCons (gtN 4) (gtCons (gtN 5) gtNil))) b2__law_worth []) (mRetV 3))
def g__law_worth : Env' → Out Sl := gOf 8 3 m__law_worth
def m__law_zeros : M Ctl := mRetO (mComp [3] (mIt (mFz (mCall g__law_choices (mCons (mVar 2) mNil)))) (gtN 3) (mTst (mOp eqX (mFz (mComp [4] (mIt (mVar 1)) (gtN 4) (mTst (mOp neX (mFz (mCall g__law_worth (mCons (mVar 0) (mCons (mVar 4) (mCons (mVar 3) mNil))))) (mC (.int 0)))) (mVar 4))) (mFz (mLst mNil)))) (mVar 3))
def g__law_zeros : Env' → Out Sl := gOf 5 3 m__law_zeros
def b1__law_product : M Ctl := mAsg 1 (mOp mulX (mVar 1) (mVar 2))
def m__law_product : M Ctl := mSeq (mAsg 1 (mC (.int 1))) (mSeq (mFor (mIt (mVar 0)) (gtN 2) b1__law_product []) (mRetV 1))
def g__law_product : Env' → Out Sl := gOf 3 1 m__law_product
def b1__law_lists : M Ctl := mSeq (mAsg 6 (mFz (mCallIO 0 g__law_mixed (mCons (mIfE (mTst (mOp eqX (mVar 1) (mC (.int 0)))) (mFz (mL2 lr slL (mUn negD (mC (.int 5))) (mC (.int 6)))) (mFz (mL1 lr slL (mVar 1)))) mNil)))) (mApp 4 (mB tupleD (mCons (mFz (mBO sortF (mCons (mFz (mSlice (mVar 6) mNoP (mPart (mOp addD (mC (.int 1)) (mFz (mCallIO 0 g__law_any (mCons (mB min2D (mCons (mVar 3) (mCons (mB lenD (mCons (mVar 6) mNil)) mNil))) mNil))))))) mNil))) mNil)))
def m__law_lists : M Ctl := mSeq (mAsgO 4 (mLst mNil)) (mSeq (mFor (mItO rg1 (mCons (mVar 2) mNil)) (gtN 5) b1__law_lists []) (mRet (mB tupleD (mCons (mVar 4) mNil))))
def g__law_lists : Env' → Out Sl := gOf 7 4 m__law_lists
def b1__law_plus : M Ctl := mDPut 3 (mVar 4) (mOp addD (mDGet 3 (mVar 4) (mC (.int 0))) (mVar 5))
def m__law_plus : M Ctl := mSeq (mAsgO 3 mDNewT) (mSeq (mFor (mIt (mOp addD (mVar 1) (mVar 2))) (gtTup (gtCons (gtN 4) (gtCons (gtN 5) gtNil))) b1__law_plus []) (mRetO (mCall g__law_tidy (mCons (mVar 0) (mCons (mVar 3) mNil)))))
def g__law_plus : Env' → Out Sl := gOf 6 3 m__law_plus
def b1__law_least : M Ctl := mSeq (mAsg 4 (mFz (mComp [5] (mItO rg1 (mCons (mOwnLen 2) mNil)) (gtN 5) (mTst (mOp gtD (mOwnIx 2 (mVar 5)) (mC (.int 1)))) (mVar 5)))) (mIf (mTst (mOp neX (mVar 4) (mFz (mLst mNil)))) (mSeq (mAsg 5 (mOp idxD (mB (bestD PySem.W.minD) (mCons (mFz (mComp [6] (mIt (mVar 4)) (gtN 6) mYes (mTup (mCons (mOp idxD (mVar 0) (mVar 6)) (mCons (mVar 6) mNil))))) mNil)) (mC (.int 1)))) (mSetIx 2 (mVar 5) (mOp subD (mOwnIx 2 (mVar 5)) (mC (.int 1))))) mNext)
def m__law_least : M Ctl := mSeq (mAsgO 2 (mBO listF (mCons (mVar 0) mNil))) (mSeq (mFor (mItO rg1 (mCons (mVar 1) mNil)) (gtN 3) b1__law_least []) (mRet (mB tupleD (mCons (mVar 2) mNil))))
def g__law_least : Env' → Out Sl := gOf 7 2 m__law_least
def b1_choice_count : M Ctl := mAsg 1 (mOp mulX (mVar 1) (mB lenD (mCons (mVar 2) mNil)))
def m_choice_count : M Ctl := mSeq (mAsg 1 (mC (.int 1))) (mSeq (mFor (mIt (mVar 0)) (gtN 2) b1_choice_count []) (mRetV 1))
def g_choice_count : Env' → Out Sl := gOf 3 1 m_choice_count
def b1_choices : M Ctl := mAsg 1 (mFz (mComp2 [3, 4] [4] (mIt (mVar 1)) (gtN 3) (mIt (mVar 2)) (gtN 4) (mTup (mStar (mVar 3) (mCons (mVar 4) mNil)))))
def m_choices : M Ctl := mSeq (mIf (mTst (mOp gtD (mFz (mCall g_choice_count (mCons (mVar 0) mNil))) (mC (.int 20000)))) mNever mNext) (mSeq (mAsg 1 (mFz (mLst (mCons (mTup mNil) mNil)))) (mSeq (mFor (mIt (mVar 0)) (gtN 2) b1_choices []) (mRet (mB tupleD (mCons (mVar 1) mNil)))))
def g_choices : Env' → Out Sl := gOf 5 1 m_choices
def m_element : M Ctl := mRet (mIfE (mTst (mOp eqX (mVar 0) (mC (.int 0)))) (mVar 1) (mOp modD (mB intD (mCons (mVar 1) mNil)) (mVar 0)))
def g_element : Env' → Out Sl := gOf 2 2 m_element
def b1_raised : M Ctl := mAsg 3 (mFz (mCall g_element (mCons (mVar 0) (mCons (mOp mulX (mVar 3) (mVar 1)) mNil))))
def m_raised : M Ctl := mSeq (mAsg 3 (mC (.int 1))) (mSeq (mFor (mItO rg1 (mCons (mVar 2) mNil)) (gtN 4) b1_raised []) (mRetV 3))
def g_raised : Env' → Out Sl := gOf 5 3 m_raised
def b1_worth : M Ctl := mAsg 5 (mFz (mCall g_element (mCons (mVar 0) (mCons (mOp mulX (mVar 5) (mFz (mCall g_raised (mCons (mVar 0) (mCons (mVar 6) (mCons (mVar 7) mNil)))))) mNil))))
def b2_worth : M Ctl := mSeq (mFor (mItO zp2 (mCons (mVar 2) (mCons (mVar 4) mNil))) (gtTup (gtCons (gtN 6) (gtCons (gtN 7) gtNil))) b1_worth []) (mAsg 3 (mFz (mCall g_element (mCons (mVar 0) (mCons (mOp addD (mVar 3) (mVar 5)) mNil)))))
def m_worth : M Ctl := mSeq (mAsg 3 (mC (.int 0))) (mSeq (mFor (mIt (mVar 1)) (gtTup (gtCons (gtN 4) (gtCons (gtN 5) gtNil))) b2_worth []) (mRetV 3))
def g_worth : Env' → Out Sl := gOf 8 3 m_worth
def m_common_zeros : M Ctl := mRet (mB tupleD (mCons (mFz (mComp [3] (mIt (mFz (mCall g_choices (mCons (mVar 2) mNil)))) (gtN 3) (mTst (mB allD (mCons (mFz (mComp [4] (mIt (mVar 1)) (gtN 4) mYes (mOp eqX (mFz (mCall g_worth (mCons (mVar 0) (mCons (mVar 4) (mCons (mVar 3) mNil))))) (mC (.int 0))))) mNil))) (mVar 3))) mNil))
def g_common_zeros : Env' → Out Sl := gOf 5 3 m_common_zeros
def b1_product_of : M Ctl := mAsg 1 (mOp mulX (mVar 1) (mVar 2))
def m_product_of : M Ctl := mSeq (mAsg 1 (mC (.int 1))) (mSeq (mFor (mIt (mVar 0)) (gtN 2) b1_product_of []) (mRetV 1))
def g_product_of : Env' → Out Sl := gOf 3 1 m_product_of
def b1_least_shape : M Ctl := mSeq (mAsg 5 (mB min2D (mCons (mVar 1) (mCons (mOp subD (mVar 3) (mC (.int 1))) mNil)))) (mSeq (mSetIx 2 (mVar 4) (mOp subD (mVar 3) (mVar 5))) (mAsg 1 (mOp subD (mVar 1) (mVar 5))))
def m_least_shape : M Ctl := mSeq (mAsgO 2 (mBO listF (mCons (mVar 0) mNil))) (mSeq (mFor (mIt (mFz (mBO sortF (mCons (mFz (mComp [4, 3] (mItO en1 (mCons (mVar 0) mNil)) (gtTup (gtCons (gtN 4) (gtCons (gtN 3) gtNil))) mYes (mTup (mCons (mVar 3) (mCons (mVar 4) mNil))))) mNil)))) (gtTup (gtCons (gtN 3) (gtCons (gtN 4) gtNil))) b1_least_shape []) (mRet (mB tupleD (mCons (mVar 2) mNil))))
def g_least_shape : Env' → Out Sl := gOf 6 2 m_least_shape
def m_least_picks : M Ctl := mRetO (mCall g_product_of (mCons (mFz (mCall g_least_shape (mCons (mVar 0) (mCons (mVar 1) mNil)))) mNil))
def g_least_picks : Env' → Out Sl := gOf 2 2 m_least_picks
def m_lengths_of : M Ctl := mRet (mB tupleD (mCons (mFz (mComp [1] (mIt (mVar 0)) (gtN 1) mYes (mB lenD (mCons (mVar 1) mNil)))) mNil))
def g_lengths_of : Env' → Out Sl := gOf 2 1 m_lengths_of
def m_degree : M Ctl := mRet (mB (bestD PySem.W.maxD) (mCons (mFz (mLst (mCons (mUn negD (mC (.int 1))) (mStar (mFz (mComp [1, 2] (mIt (mVar 0)) (gtTup (gtCons (gtN 1) (gtCons (gtN 2) gtNil))) mYes (mB sumD (mCons (mVar 1) mNil)))) mNil)))) mNil))
def g_degree : Env' → Out Sl := gOf 3 1 m_degree
def m_load : M Ctl := mRet (mOp mulX (mOp subD (mVar 0) (mC (.int 1))) (mB sumD (mCons (mFz (mComp [2] (mIt (mVar 1)) (gtN 2) mYes (mB max2D (mCons (mC (.int 0)) (mCons (mFz (mCall g_degree (mCons (mVar 2) mNil))) mNil))))) mNil)))
def g_load : Env' → Out Sl := gOf 3 2 m_load
def m_fewest_zeros : M Ctl := mRetO (mCall g_least_picks (mCons (mFz (mCall g_lengths_of (mCons (mVar 2) mNil))) (mCons (mFz (mCall g_load (mCons (mVar 0) (mCons (mVar 1) mNil)))) mNil)))
def g_fewest_zeros : Env' → Out Sl := gOf 3 3 m_fewest_zeros
def m__law_lengths : M Ctl := mRet (mB tupleD (mCons (mFz (mComp [1] (mIt (mVar 0)) (gtN 1) mYes (mB lenD (mCons (mVar 1) mNil)))) mNil))
def g__law_lengths : Env' → Out Sl := gOf 2 1 m__law_lengths
def m__law_degree : M Ctl := mRet (mB (bestD PySem.W.maxD) (mCons (mOp addD (mFz (mLst (mCons (mUn negD (mC (.int 1))) mNil))) (mFz (mComp [1, 2] (mIt (mVar 0)) (gtTup (gtCons (gtN 1) (gtCons (gtN 2) gtNil))) mYes (mB sumD (mCons (mVar 1) mNil))))) mNil))
def g__law_degree : Env' → Out Sl := gOf 3 1 m__law_degree
def m__law_load : M Ctl := mRet (mOp mulX (mOp subD (mVar 0) (mC (.int 1))) (mB sumD (mCons (mFz (mComp [2] (mIt (mVar 1)) (gtN 2) mYes (mB max2D (mCons (mC (.int 0)) (mCons (mFz (mCall g__law_degree (mCons (mVar 2) mNil))) mNil))))) mNil)))
def g__law_load : Env' → Out Sl := gOf 3 2 m__law_load
def b1_law : M Ctl := mSeq (mAsg 13 (mFz (mCallIO 1 g__law_polynomial (mCons (mVar 8) (mCons (mVar 9) (mCons (mC (.int 3)) (mCons (mC (.int 1)) mNil))))))) (mApp 5 (mFz (mCall g__law_plus (mCons (mVar 8) (mCons (mVar 13) (mCons (mFz (mCall g__law_tidy (mCons (mVar 8) (mCons (mFzT (mDisp (mPCons (mOp mulX (mTup (mCons (mC (.int 0)) mNil)) (mVar 9)) (mOp subD (mC (.int 0)) (mFz (mCall g__law_worth (mCons (mVar 8) (mCons (mVar 13) (mCons (mVar 12) mNil)))))) mPNil))) mNil)))) mNil))))))
def b2_law : M Ctl := mSeq (mAsgT (mFz (mCallIO 1 g__law_of (mCons (mFz (mLst (mCons (mTup (mCons (mC (.int 2)) (mCons (mC (.int 2)) mNil))) (mCons (mTup (mCons (mC (.int 2)) (mCons (mC (.int 3)) mNil))) (mCons (mTup (mCons (mC (.int 2)) (mCons (mC (.int 4)) mNil))) (mCons (mTup (mCons (mC (.int 2)) (mCons (mC (.int 5)) mNil))) (mCons (mTup (mCons (mC (.int 3)) (mCons (mC (.int 2)) mNil))) (mCons (mTup (mCons (mC (.int 3)) (mCons (mC (.int 3)) mNil))) (mCons (mTup (mCons (mC (.int 5)) (mCons (mC (.int 2)) mNil))) mNil))))))))) mNil))) (gtTup (gtCons (gtN 8) (gtCons (gtN 9) gtNil)))) (mSeq (mPar2 10 11 (mOd (mOp mulX (mTup (mCons (mFz (mL1 lr slT (mVar 8))) mNil)) (mVar 9))) (mOd (mFz (mCallIO 1 g__law_any (mCons (mC (.int 3)) mNil))))) (mSeq (mAsg 3 (mIfE (mTst (mOp eqX (mVar 11) (mC (.int 0)))) (mVar 10) (mIfE (mTst (mOp eqX (mVar 11) (mC (.int 1)))) (mOp mulX (mTup (mCons (mTup (mCons (mC (.int 0)) (mCons (mC (.int 1)) mNil))) mNil)) (mVar 9)) (mFz (mCallIO 1 g__law_lists (mCons (mVar 8) (mCons (mVar 9) (mCons (mC (.int 3)) mNil)))))))) (mSeq (mPar2 5 12 (mLst mNil) (mOd (mFz (mCallIO 1 g__law_of (mCons (mFz (mCall g__law_choices (mCons (mVar 3) mNil))) mNil))))) (mSeq (mFor (mItO rg1 (mCons (mFz (mCallIO 1 g__law_any (mCons (mC (.int 3)) mNil))) mNil)) (gtN 4) b1_law []) (mSeq (mAsg 5 (mB tupleD (mCons (mVar 5) mNil))) (mSeq (mPar2 14 15 (mOd (mFz (mCall g__law_zeros (mCons (mVar 8) (mCons (mVar 5) (mCons (mVar 3) mNil)))))) (mOd (mFz (mCall g__law_product (mCons (mFz (mCall g__law_least (mCons (mFz (mCall g__law_lengths (mCons (mVar 3) mNil))) (mCons (mFz (mCall g__law_load (mCons (mVar 8) (mCons (mVar 5) mNil)))) mNil)))) mNil))))) (mSeq (mIf (mOr (mTst (mOp neX (mB reprD (mCons (mFz (mCall g_fewest_zeros (mCons (mVar 8) (mCons (mVar 5) (mCons (mVar 3) mNil))))) mNil)) (mB reprD (mCons (mVar 15) mNil)))) (mOr (mTst (mOp eqX (mVar 14) (mFz (mLst mNil)))) (mTst (mOp ltD (mB lenD (mCons (mVar 14) mNil)) (mVar 15))))) (mRet (mC (.bool false))) mNext) (mSeq (mIf (mTst (mOp neX (mB reprD (mCons (mFz (mCall g_common_zeros (mCons (mVar 8) (mCons (mVar 5) (mCons (mVar 3) mNil))))) mNil)) (mB reprD (mCons (mB tupleD (mCons (mVar 14) mNil)) mNil)))) (mRet (mC (.bool false))) mNext) (mSeq (mAsg 6 (mFz (mCallIO 1 g__law_any (mCons (mOp addD (mVar 9) (mC (.int 1))) mNil)))) (mSeq (mAsg 7 (mFz (mCall g_zero_unknowns (mCons (mVar 8) (mCons (mVar 9) (mCons (mVar 6) mNil)))))) (mIf (mOr (mTst (mOp neX (mB lenD (mCons (mFz (mCall g__law_zeros (mCons (mVar 8) (mCons (mVar 7) (mCons (mVar 10) mNil))))) mNil)) (mFz (mCall g__law_product (mCons (mFz (mRepO (mFz (mLst (mCons (mVar 8) mNil))) (mOp subD (mVar 9) (mVar 6)))) mNil))))) (mTst (mOp neX (mFz (mCall g_fewest_zeros (mCons (mVar 8) (mCons (mVar 7) (mCons (mVar 10) mNil))))) (mFz (mCall g__law_product (mCons (mFz (mRepO (mFz (mLst (mCons (mVar 8) mNil))) (mOp subD (mVar 9) (mVar 6)))) mNil)))))) (mRet (mC (.bool false))) mNext)))))))))))
def m_law : M Ctl := mSeq (mAsgO 1 (mCallIO 0 g__law_draw (mCons (mC (.int 36)) mNil))) (mSeq (mFor (mItO rg1 (mCons (mC (.int 3)) mNil)) (gtN 2) b2_law []) (mRet (mC (.bool true))))
def g_law : Env' → Out Sl := gOf 16 1 m_law
/-! ### the defs -/
def top (i : Nat) : Stmt := PySem.Challenge.pw_listpicks_k36_whole_how_many_common_zero.main.body.getD i (.Pass ⟨0, 0, 0, 0⟩)
abbrev FnP (K : PySem.W.Frag) (x : Str) (st : Stmt) (f : Addr) (fd : FuncData) : Prop := FunD K x x (defArgs st) (defBody st) (defScope st) [] [] f fd
abbrev s__law_draw : Stmt := top 26
abbrev N__law_draw : List Str := ["script", "salt", "cells", "blend", "cell"]
abbrev P__law_draw : List Str := ["script", "salt"]
theorem sc__law_draw : FnScope N__law_draw P__law_draw (defScope s__law_draw) := ⟨rfl, rfl, rfl, by decide +kernel, rfl, by decide +kernel, by decide +kernel⟩
abbrev s__law_any : Stmt := top 27
abbrev N__law_any : List Str := ["deal", "bound", "rest"]
abbrev P__law_any : List Str := ["deal", "bound"]
theorem sc__law_any : FnScope N__law_any P__law_any (defScope s__law_any) := ⟨rfl, rfl, rfl, by decide +kernel, rfl, by decide +kernel, by decide +kernel⟩
abbrev s__law_of : Stmt := top 28
abbrev N__law_of : List Str := ["deal", "some"]
abbrev P__law_of : List Str := ["deal", "some"]
theorem sc__law_of : FnScope N__law_of P__law_of (defScope s__law_of) := ⟨rfl, rfl, rfl, by decide +kernel, rfl, by decide +kernel, by decide +kernel⟩
abbrev s_unknown : Stmt := top 7
abbrev N_unknown : List Str := ["p", "n", "at", "one"]
abbrev P_unknown : List Str := ["p", "n", "at"]
theorem sc_unknown : FnScope N_unknown P_unknown (defScope s_unknown) := ⟨rfl, rfl, rfl, by decide +kernel, rfl, by decide +kernel, by decide +kernel⟩
abbrev s_zero_unknowns : Stmt := top 24
abbrev N_zero_unknowns : List Str := ["p", "n", "many", "at"]
abbrev P_zero_unknowns : List Str := ["p", "n", "many"]
theorem sc_zero_unknowns : FnScope N_zero_unknowns P_zero_unknowns (defScope s_zero_unknowns) := ⟨rfl, rfl, rfl, by decide +kernel, rfl, by decide +kernel, by decide +kernel⟩
abbrev s__law_element : Stmt := top 30
abbrev N__law_element : List Str := ["p", "number"]
abbrev P__law_element : List Str := ["p", "number"]
theorem sc__law_element : FnScope N__law_element P__law_element (defScope s__law_element) := ⟨rfl, rfl, rfl, by decide +kernel, rfl, by decide +kernel, by decide +kernel⟩
abbrev s__law_tidy : Stmt := top 33
abbrev N__law_tidy : List Str := ["p", "found", "powers"]
abbrev P__law_tidy : List Str := ["p", "found"]
theorem sc__law_tidy : FnScope N__law_tidy P__law_tidy (defScope s__law_tidy) := ⟨rfl, rfl, rfl, by decide +kernel, rfl, by decide +kernel, by decide +kernel⟩
abbrev s__law_some : Stmt := top 31
abbrev N__law_some : List Str := ["deal", "p"]
abbrev P__law_some : List Str := ["deal", "p"]
theorem sc__law_some : FnScope N__law_some P__law_some (defScope s__law_some) := ⟨rfl, rfl, rfl, by decide +kernel, rfl, by decide +kernel, by decide +kernel⟩
abbrev s__law_polynomial : Stmt := top 34
abbrev N__law_polynomial : List Str := ["deal", "p", "n", "terms", "power", "found", "turn", "powers", "at"]
abbrev P__law_polynomial : List Str := ["deal", "p", "n", "terms", "power"]
theorem sc__law_polynomial : FnScope N__law_polynomial P__law_polynomial (defScope s__law_polynomial) := ⟨rfl, rfl, rfl, by decide +kernel, rfl, by decide +kernel, by decide +kernel⟩
abbrev s__law_choices : Stmt := top 38
abbrev N__law_choices : List Str := ["lists", "found", "row", "later", "choice", "one"]
abbrev P__law_choices : List Str := ["lists"]
theorem sc__law_choices : FnScope N__law_choices P__law_choices (defScope s__law_choices) := ⟨rfl, rfl, rfl, by decide +kernel, rfl, by decide +kernel, by decide +kernel⟩
abbrev s__law_power : Stmt := top 36
abbrev N__law_power : List Str := ["p", "one", "power", "found", "turn"]
abbrev P__law_power : List Str := ["p", "one", "power"]
theorem sc__law_power : FnScope N__law_power P__law_power (defScope s__law_power) := ⟨rfl, rfl, rfl, by decide +kernel, rfl, by decide +kernel, by decide +kernel⟩
abbrev s__law_worth : Stmt := top 37
abbrev N__law_worth : List Str := ["p", "polynomial", "choice", "total", "powers", "factor", "at", "power"]
abbrev P__law_worth : List Str := ["p", "polynomial", "choice"]
theorem sc__law_worth : FnScope N__law_worth P__law_worth (defScope s__law_worth) := ⟨rfl, rfl, rfl, by decide +kernel, rfl, by decide +kernel, by decide +kernel⟩
abbrev s__law_zeros : Stmt := top 43
abbrev N__law_zeros : List Str := ["p", "equations", "lists", "choice", "one"]
abbrev P__law_zeros : List Str := ["p", "equations", "lists"]
theorem sc__law_zeros : FnScope N__law_zeros P__law_zeros (defScope s__law_zeros) := ⟨rfl, rfl, rfl, by decide +kernel, rfl, by decide +kernel, by decide +kernel⟩
abbrev s__law_product : Stmt := top 40
abbrev N__law_product : List Str := ["numbers", "found", "number"]
abbrev P__law_product : List Str := ["numbers"]
theorem sc__law_product : FnScope N__law_product P__law_product (defScope s__law_product) := ⟨rfl, rfl, rfl, by decide +kernel, rfl, by decide +kernel, by decide +kernel⟩
abbrev s__law_mixed : Stmt := top 29
abbrev N__law_mixed : List Str := ["deal", "some", "left", "found"]
abbrev P__law_mixed : List Str := ["deal", "some"]
theorem sc__law_mixed : FnScope N__law_mixed P__law_mixed (defScope s__law_mixed) := ⟨rfl, rfl, rfl, by decide +kernel, rfl, by decide +kernel, by decide +kernel⟩
abbrev s__law_lists : Stmt := top 32
abbrev N__law_lists : List Str := ["deal", "p", "n", "most", "found", "at", "row"]
abbrev P__law_lists : List Str := ["deal", "p", "n", "most"]
theorem sc__law_lists : FnScope N__law_lists P__law_lists (defScope s__law_lists) := ⟨rfl, rfl, rfl, by decide +kernel, rfl, by decide +kernel, by decide +kernel⟩
abbrev s__law_plus : Stmt := top 35
abbrev N__law_plus : List Str := ["p", "one", "other", "found", "powers", "factor"]
abbrev P__law_plus : List Str := ["p", "one", "other"]
theorem sc__law_plus : FnScope N__law_plus P__law_plus (defScope s__law_plus) := ⟨rfl, rfl, rfl, by decide +kernel, rfl, by decide +kernel, by decide +kernel⟩
abbrev s__law_least : Stmt := top 42
abbrev N__law_least : List Str := ["lengths", "d", "found", "step", "some", "at", "one"]
abbrev P__law_least : List Str := ["lengths", "d"]
theorem sc__law_least : FnScope N__law_least P__law_least (defScope s__law_least) := ⟨rfl, rfl, rfl, by decide +kernel, rfl, by decide +kernel, by decide +kernel⟩
abbrev s_choice_count : Stmt := top 17
abbrev N_choice_count : List Str := ["lists", "found", "row"]
abbrev P_choice_count : List Str := ["lists"]
theorem sc_choice_count : FnScope N_choice_count P_choice_count (defScope s_choice_count) := ⟨rfl, rfl, rfl, by decide +kernel, rfl, by decide +kernel, by decide +kernel⟩
abbrev s_choices : Stmt := top 18
abbrev N_choices : List Str := ["lists", "found", "row", "choice", "one"]
abbrev P_choices : List Str := ["lists"]
theorem sc_choices : FnScope N_choices P_choices (defScope s_choices) := ⟨rfl, rfl, rfl, by decide +kernel, rfl, by decide +kernel, by decide +kernel⟩
abbrev s_element : Stmt := top 4
abbrev N_element : List Str := ["p", "number"]
abbrev P_element : List Str := ["p", "number"]
theorem sc_element : FnScope N_element P_element (defScope s_element) := ⟨rfl, rfl, rfl, by decide +kernel, rfl, by decide +kernel, by decide +kernel⟩
abbrev s_raised : Stmt := top 8
abbrev N_raised : List Str := ["p", "one", "power", "found", "turn"]
abbrev P_raised : List Str := ["p", "one", "power"]
theorem sc_raised : FnScope N_raised P_raised (defScope s_raised) := ⟨rfl, rfl, rfl, by decide +kernel, rfl, by decide +kernel, by decide +kernel⟩
abbrev s_worth : Stmt := top 9
abbrev N_worth : List Str := ["p", "polynomial", "choice", "found", "powers", "factor", "one", "power"]
abbrev P_worth : List Str := ["p", "polynomial", "choice"]
theorem sc_worth : FnScope N_worth P_worth (defScope s_worth) := ⟨rfl, rfl, rfl, by decide +kernel, rfl, by decide +kernel, by decide +kernel⟩
abbrev s_common_zeros : Stmt := top 20
abbrev N_common_zeros : List Str := ["p", "equations", "lists", "choice", "one"]
abbrev P_common_zeros : List Str := ["p", "equations", "lists"]
theorem sc_common_zeros : FnScope N_common_zeros P_common_zeros (defScope s_common_zeros) := ⟨rfl, rfl, rfl, by decide +kernel, rfl, by decide +kernel, by decide +kernel⟩
abbrev s_product_of : Stmt := top 12
abbrev N_product_of : List Str := ["numbers", "found", "number"]
abbrev P_product_of : List Str := ["numbers"]
theorem sc_product_of : FnScope N_product_of P_product_of (defScope s_product_of) := ⟨rfl, rfl, rfl, by decide +kernel, rfl, by decide +kernel, by decide +kernel⟩
abbrev s_least_shape : Stmt := top 11
abbrev N_least_shape : List Str := ["lengths", "d", "found", "length", "at", "taken"]
abbrev P_least_shape : List Str := ["lengths", "d"]
theorem sc_least_shape : FnScope N_least_shape P_least_shape (defScope s_least_shape) := ⟨rfl, rfl, rfl, by decide +kernel, rfl, by decide +kernel, by decide +kernel⟩
abbrev s_least_picks : Stmt := top 13
abbrev N_least_picks : List Str := ["lengths", "d"]
abbrev P_least_picks : List Str := ["lengths", "d"]
theorem sc_least_picks : FnScope N_least_picks P_least_picks (defScope s_least_picks) := ⟨rfl, rfl, rfl, by decide +kernel, rfl, by decide +kernel, by decide +kernel⟩
abbrev s_lengths_of : Stmt := top 14
abbrev N_lengths_of : List Str := ["lists", "row"]
abbrev P_lengths_of : List Str := ["lists"]
theorem sc_lengths_of : FnScope N_lengths_of P_lengths_of (defScope s_lengths_of) := ⟨rfl, rfl, rfl, by decide +kernel, rfl, by decide +kernel, by decide +kernel⟩
abbrev s_degree : Stmt := top 6
abbrev N_degree : List Str := ["polynomial", "powers", "factor"]
abbrev P_degree : List Str := ["polynomial"]
theorem sc_degree : FnScope N_degree P_degree (defScope s_degree) := ⟨rfl, rfl, rfl, by decide +kernel, rfl, by decide +kernel, by decide +kernel⟩
abbrev s_load : Stmt := top 21
abbrev N_load : List Str := ["p", "equations", "one"]
abbrev P_load : List Str := ["p", "equations"]
theorem sc_load : FnScope N_load P_load (defScope s_load) := ⟨rfl, rfl, rfl, by decide +kernel, rfl, by decide +kernel, by decide +kernel⟩
abbrev s_fewest_zeros : Stmt := top 22
abbrev N_fewest_zeros : List Str := ["p", "equations", "lists"]
abbrev P_fewest_zeros : List Str := ["p", "equations", "lists"]
theorem sc_fewest_zeros : FnScope N_fewest_zeros P_fewest_zeros (defScope s_fewest_zeros) := ⟨rfl, rfl, rfl, by decide +kernel, rfl, by decide +kernel, by decide +kernel⟩
abbrev s__law_lengths : Stmt := top 41
abbrev N__law_lengths : List Str := ["lists", "row"]
abbrev P__law_lengths : List Str := ["lists"]
theorem sc__law_lengths : FnScope N__law_lengths P__law_lengths (defScope s__law_lengths) := ⟨rfl, rfl, rfl, by decide +kernel, rfl, by decide +kernel, by decide +kernel⟩
abbrev s__law_degree : Stmt := top 39
abbrev N__law_degree : List Str := ["polynomial", "powers", "factor"]
abbrev P__law_degree : List Str := ["polynomial"]
theorem sc__law_degree : FnScope N__law_degree P__law_degree (defScope s__law_degree) := ⟨rfl, rfl, rfl, by decide +kernel, rfl, by decide +kernel, by decide +kernel⟩
abbrev s__law_load : Stmt := top 44
abbrev N__law_load : List Str := ["p", "equations", "one"]
abbrev P__law_load : List Str := ["p", "equations"]
theorem sc__law_load : FnScope N__law_load P__law_load (defScope s__law_load) := ⟨rfl, rfl, rfl, by decide +kernel, rfl, by decide +kernel, by decide +kernel⟩
abbrev s_law : Stmt := top 45
abbrev N_law : List Str := ["script", "deal", "turn", "lists", "spot", "equations", "many", "some", "p", "n", "every", "form", "point", "one", "zeros", "least"]
abbrev P_law : List Str := ["script"]
theorem sc_law : FnScope N_law P_law (defScope s_law) := ⟨rfl, rfl, rfl, by decide +kernel, rfl, by decide +kernel, by decide +kernel⟩
structure Facts (K : PySem.W.Frag) (mg : Str → Option Value) where
  f__law_draw : Addr
  d__law_draw : FuncData
  D__law_draw : FnP K "_law_draw" s__law_draw f__law_draw d__law_draw
  m__law_draw : mg "_law_draw" = some (.ref f__law_draw)
  f__law_any : Addr
  d__law_any : FuncData
  D__law_any : FnP K "_law_any" s__law_any f__law_any d__law_any
  m__law_any : mg "_law_any" = some (.ref f__law_any)
  f__law_of : Addr
  d__law_of : FuncData
  D__law_of : FnP K "_law_of" s__law_of f__law_of d__law_of
  m__law_of : mg "_law_of" = some (.ref f__law_of)
  f_unknown : Addr
  d_unknown : FuncData
  D_unknown : FnP K "unknown" s_unknown f_unknown d_unknown
  m_unknown : mg "unknown" = some (.ref f_unknown)
  f_zero_unknowns : Addr
  d_zero_unknowns : FuncData
  D_zero_unknowns : FnP K "zero_unknowns" s_zero_unknowns f_zero_unknowns d_zero_unknowns
  m_zero_unknowns : mg "zero_unknowns" = some (.ref f_zero_unknowns)
  f__law_element : Addr
  d__law_element : FuncData
  D__law_element : FnP K "_law_element" s__law_element f__law_element d__law_element
  m__law_element : mg "_law_element" = some (.ref f__law_element)
  f__law_tidy : Addr
  d__law_tidy : FuncData
  D__law_tidy : FnP K "_law_tidy" s__law_tidy f__law_tidy d__law_tidy
  m__law_tidy : mg "_law_tidy" = some (.ref f__law_tidy)
  f__law_some : Addr
  d__law_some : FuncData
  D__law_some : FnP K "_law_some" s__law_some f__law_some d__law_some
  m__law_some : mg "_law_some" = some (.ref f__law_some)
  f__law_polynomial : Addr
  d__law_polynomial : FuncData
  D__law_polynomial : FnP K "_law_polynomial" s__law_polynomial f__law_polynomial d__law_polynomial
  m__law_polynomial : mg "_law_polynomial" = some (.ref f__law_polynomial)
  f__law_choices : Addr
  d__law_choices : FuncData
  D__law_choices : FnP K "_law_choices" s__law_choices f__law_choices d__law_choices
  m__law_choices : mg "_law_choices" = some (.ref f__law_choices)
  f__law_power : Addr
  d__law_power : FuncData
  D__law_power : FnP K "_law_power" s__law_power f__law_power d__law_power
  m__law_power : mg "_law_power" = some (.ref f__law_power)
  f__law_worth : Addr
  d__law_worth : FuncData
  D__law_worth : FnP K "_law_worth" s__law_worth f__law_worth d__law_worth
  m__law_worth : mg "_law_worth" = some (.ref f__law_worth)
  f__law_zeros : Addr
  d__law_zeros : FuncData
  D__law_zeros : FnP K "_law_zeros" s__law_zeros f__law_zeros d__law_zeros
  m__law_zeros : mg "_law_zeros" = some (.ref f__law_zeros)
  f__law_product : Addr
  d__law_product : FuncData
  D__law_product : FnP K "_law_product" s__law_product f__law_product d__law_product
  m__law_product : mg "_law_product" = some (.ref f__law_product)
  f__law_mixed : Addr
  d__law_mixed : FuncData
  D__law_mixed : FnP K "_law_mixed" s__law_mixed f__law_mixed d__law_mixed
  m__law_mixed : mg "_law_mixed" = some (.ref f__law_mixed)
  f__law_lists : Addr
  d__law_lists : FuncData
  D__law_lists : FnP K "_law_lists" s__law_lists f__law_lists d__law_lists
  m__law_lists : mg "_law_lists" = some (.ref f__law_lists)
  f__law_plus : Addr
  d__law_plus : FuncData
  D__law_plus : FnP K "_law_plus" s__law_plus f__law_plus d__law_plus
  m__law_plus : mg "_law_plus" = some (.ref f__law_plus)
  f__law_least : Addr
  d__law_least : FuncData
  D__law_least : FnP K "_law_least" s__law_least f__law_least d__law_least
  m__law_least : mg "_law_least" = some (.ref f__law_least)
  f_choice_count : Addr
  d_choice_count : FuncData
  D_choice_count : FnP K "choice_count" s_choice_count f_choice_count d_choice_count
  m_choice_count : mg "choice_count" = some (.ref f_choice_count)
  f_choices : Addr
  d_choices : FuncData
  D_choices : FnP K "choices" s_choices f_choices d_choices
  m_choices : mg "choices" = some (.ref f_choices)
  f_element : Addr
  d_element : FuncData
  D_element : FnP K "element" s_element f_element d_element
  m_element : mg "element" = some (.ref f_element)
  f_raised : Addr
  d_raised : FuncData
  D_raised : FnP K "raised" s_raised f_raised d_raised
  m_raised : mg "raised" = some (.ref f_raised)
  f_worth : Addr
  d_worth : FuncData
  D_worth : FnP K "worth" s_worth f_worth d_worth
  m_worth : mg "worth" = some (.ref f_worth)
  f_common_zeros : Addr
  d_common_zeros : FuncData
  D_common_zeros : FnP K "common_zeros" s_common_zeros f_common_zeros d_common_zeros
  m_common_zeros : mg "common_zeros" = some (.ref f_common_zeros)
  f_product_of : Addr
  d_product_of : FuncData
  D_product_of : FnP K "product_of" s_product_of f_product_of d_product_of
  m_product_of : mg "product_of" = some (.ref f_product_of)
  f_least_shape : Addr
  d_least_shape : FuncData
  D_least_shape : FnP K "least_shape" s_least_shape f_least_shape d_least_shape
  m_least_shape : mg "least_shape" = some (.ref f_least_shape)
  f_least_picks : Addr
  d_least_picks : FuncData
  D_least_picks : FnP K "least_picks" s_least_picks f_least_picks d_least_picks
  m_least_picks : mg "least_picks" = some (.ref f_least_picks)
  f_lengths_of : Addr
  d_lengths_of : FuncData
  D_lengths_of : FnP K "lengths_of" s_lengths_of f_lengths_of d_lengths_of
  m_lengths_of : mg "lengths_of" = some (.ref f_lengths_of)
  f_degree : Addr
  d_degree : FuncData
  D_degree : FnP K "degree" s_degree f_degree d_degree
  m_degree : mg "degree" = some (.ref f_degree)
  f_load : Addr
  d_load : FuncData
  D_load : FnP K "load" s_load f_load d_load
  m_load : mg "load" = some (.ref f_load)
  f_fewest_zeros : Addr
  d_fewest_zeros : FuncData
  D_fewest_zeros : FnP K "fewest_zeros" s_fewest_zeros f_fewest_zeros d_fewest_zeros
  m_fewest_zeros : mg "fewest_zeros" = some (.ref f_fewest_zeros)
  f__law_lengths : Addr
  d__law_lengths : FuncData
  D__law_lengths : FnP K "_law_lengths" s__law_lengths f__law_lengths d__law_lengths
  m__law_lengths : mg "_law_lengths" = some (.ref f__law_lengths)
  f__law_degree : Addr
  d__law_degree : FuncData
  D__law_degree : FnP K "_law_degree" s__law_degree f__law_degree d__law_degree
  m__law_degree : mg "_law_degree" = some (.ref f__law_degree)
  f__law_load : Addr
  d__law_load : FuncData
  D__law_load : FnP K "_law_load" s__law_load f__law_load d__law_load
  m__law_load : mg "_law_load" = some (.ref f__law_load)
  f_law : Addr
  d_law : FuncData
  D_law : FnP K "law" s_law f_law d_law
  m_law : mg "law" = some (.ref f_law)
  b_abs : mg "abs" = none
  b_all : mg "all" = none
  b_enumerate : mg "enumerate" = none
  b_int : mg "int" = none
  b_len : mg "len" = none
  b_list : mg "list" = none
  b_max : mg "max" = none
  b_min : mg "min" = none
  b_range : mg "range" = none
  b_repr : mg "repr" = none
  b_sorted : mg "sorted" = none
  b_sum : mg "sum" = none
  b_tuple : mg "tuple" = none
  b_zip : mg "zip" = none
  t_MOST_CHOICES : Tok
  c_MOST_CHOICES : mg "MOST_CHOICES" = some (.int 20000 t_MOST_CHOICES)
section
variable {P : Program} {w : World} {K : PySem.W.Frag} {mg : Str → Option Value} {base : Heap}
theorem Facts.F__law_draw (c : Facts K mg) : Fun K "_law_draw" "_law_draw" s__law_draw c.f__law_draw c.d__law_draw := Fun.ofD c.D__law_draw
theorem bi__law_draw (c : Facts K mg) : Binds K c.d__law_draw P__law_draw [] := c.D__law_draw.bindsN fun _ _ _ _ _ _ us hl => match us, hl with | [_, _], _ => rfl
theorem Facts.F__law_any (c : Facts K mg) : Fun K "_law_any" "_law_any" s__law_any c.f__law_any c.d__law_any := Fun.ofD c.D__law_any
theorem bi__law_any (c : Facts K mg) : Binds K c.d__law_any P__law_any [] := c.D__law_any.bindsN fun _ _ _ _ _ _ us hl => match us, hl with | [_, _], _ => rfl
theorem Facts.F__law_of (c : Facts K mg) : Fun K "_law_of" "_law_of" s__law_of c.f__law_of c.d__law_of := Fun.ofD c.D__law_of
theorem bi__law_of (c : Facts K mg) : Binds K c.d__law_of P__law_of [] := c.D__law_of.bindsN fun _ _ _ _ _ _ us hl => match us, hl with | [_, _], _ => rfl
theorem Facts.F_unknown (c : Facts K mg) : Fun K "unknown" "unknown" s_unknown c.f_unknown c.d_unknown := Fun.ofD c.D_unknown
theorem bi_unknown (c : Facts K mg) : Binds K c.d_unknown P_unknown [] := c.D_unknown.bindsN fun _ _ _ _ _ _ us hl => match us, hl with | [_, _, _], _ => rfl
theorem Facts.F_zero_unknowns (c : Facts K mg) : Fun K "zero_unknowns" "zero_unknowns" s_zero_unknowns c.f_zero_unknowns c.d_zero_unknowns := Fun.ofD c.D_zero_unknowns
theorem bi_zero_unknowns (c : Facts K mg) : Binds K c.d_zero_unknowns P_zero_unknowns [] := c.D_zero_unknowns.bindsN fun _ _ _ _ _ _ us hl => match us, hl with | [_, _, _], _ => rfl
theorem Facts.F__law_element (c : Facts K mg) : Fun K "_law_element" "_law_element" s__law_element c.f__law_element c.d__law_element := Fun.ofD c.D__law_element
theorem bi__law_element (c : Facts K mg) : Binds K c.d__law_element P__law_element [] := c.D__law_element.bindsN fun _ _ _ _ _ _ us hl => match us, hl with | [_, _], _ => rfl
theorem Facts.F__law_tidy (c : Facts K mg) : Fun K "_law_tidy" "_law_tidy" s__law_tidy c.f__law_tidy c.d__law_tidy := Fun.ofD c.D__law_tidy
theorem bi__law_tidy (c : Facts K mg) : Binds K c.d__law_tidy P__law_tidy [] := c.D__law_tidy.bindsN fun _ _ _ _ _ _ us hl => match us, hl with | [_, _], _ => rfl
theorem Facts.F__law_some (c : Facts K mg) : Fun K "_law_some" "_law_some" s__law_some c.f__law_some c.d__law_some := Fun.ofD c.D__law_some
theorem bi__law_some (c : Facts K mg) : Binds K c.d__law_some P__law_some [] := c.D__law_some.bindsN fun _ _ _ _ _ _ us hl => match us, hl with | [_, _], _ => rfl
theorem Facts.F__law_polynomial (c : Facts K mg) : Fun K "_law_polynomial" "_law_polynomial" s__law_polynomial c.f__law_polynomial c.d__law_polynomial := Fun.ofD c.D__law_polynomial
theorem bi__law_polynomial (c : Facts K mg) : Binds K c.d__law_polynomial P__law_polynomial [] := c.D__law_polynomial.bindsN fun _ _ _ _ _ _ us hl => match us, hl with | [_, _, _, _, _], _ => rfl
theorem Facts.F__law_choices (c : Facts K mg) : Fun K "_law_choices" "_law_choices" s__law_choices c.f__law_choices c.d__law_choices := Fun.ofD c.D__law_choices
theorem bi__law_choices (c : Facts K mg) : Binds K c.d__law_choices P__law_choices [] := c.D__law_choices.bindsN fun _ _ _ _ _ _ us hl => match us, hl with | [_], _ => rfl
theorem Facts.F__law_power (c : Facts K mg) : Fun K "_law_power" "_law_power" s__law_power c.f__law_power c.d__law_power := Fun.ofD c.D__law_power
theorem bi__law_power (c : Facts K mg) : Binds K c.d__law_power P__law_power [] := c.D__law_power.bindsN fun _ _ _ _ _ _ us hl => match us, hl with | [_, _, _], _ => rfl
theorem Facts.F__law_worth (c : Facts K mg) : Fun K "_law_worth" "_law_worth" s__law_worth c.f__law_worth c.d__law_worth := Fun.ofD c.D__law_worth
theorem bi__law_worth (c : Facts K mg) : Binds K c.d__law_worth P__law_worth [] := c.D__law_worth.bindsN fun _ _ _ _ _ _ us hl => match us, hl with | [_, _, _], _ => rfl
theorem Facts.F__law_zeros (c : Facts K mg) : Fun K "_law_zeros" "_law_zeros" s__law_zeros c.f__law_zeros c.d__law_zeros := Fun.ofD c.D__law_zeros
theorem bi__law_zeros (c : Facts K mg) : Binds K c.d__law_zeros P__law_zeros [] := c.D__law_zeros.bindsN fun _ _ _ _ _ _ us hl => match us, hl with | [_, _, _], _ => rfl
theorem Facts.F__law_product (c : Facts K mg) : Fun K "_law_product" "_law_product" s__law_product c.f__law_product c.d__law_product := Fun.ofD c.D__law_product
theorem bi__law_product (c : Facts K mg) : Binds K c.d__law_product P__law_product [] := c.D__law_product.bindsN fun _ _ _ _ _ _ us hl => match us, hl with | [_], _ => rfl
theorem Facts.F__law_mixed (c : Facts K mg) : Fun K "_law_mixed" "_law_mixed" s__law_mixed c.f__law_mixed c.d__law_mixed := Fun.ofD c.D__law_mixed
theorem bi__law_mixed (c : Facts K mg) : Binds K c.d__law_mixed P__law_mixed [] := c.D__law_mixed.bindsN fun _ _ _ _ _ _ us hl => match us, hl with | [_, _], _ => rfl
theorem Facts.F__law_lists (c : Facts K mg) : Fun K "_law_lists" "_law_lists" s__law_lists c.f__law_lists c.d__law_lists := Fun.ofD c.D__law_lists
theorem bi__law_lists (c : Facts K mg) : Binds K c.d__law_lists P__law_lists [] := c.D__law_lists.bindsN fun _ _ _ _ _ _ us hl => match us, hl with | [_, _, _, _], _ => rfl
theorem Facts.F__law_plus (c : Facts K mg) : Fun K "_law_plus" "_law_plus" s__law_plus c.f__law_plus c.d__law_plus := Fun.ofD c.D__law_plus
theorem bi__law_plus (c : Facts K mg) : Binds K c.d__law_plus P__law_plus [] := c.D__law_plus.bindsN fun _ _ _ _ _ _ us hl => match us, hl with | [_, _, _], _ => rfl
theorem Facts.F__law_least (c : Facts K mg) : Fun K "_law_least" "_law_least" s__law_least c.f__law_least c.d__law_least := Fun.ofD c.D__law_least
theorem bi__law_least (c : Facts K mg) : Binds K c.d__law_least P__law_least [] := c.D__law_least.bindsN fun _ _ _ _ _ _ us hl => match us, hl with | [_, _], _ => rfl
theorem Facts.F_choice_count (c : Facts K mg) : Fun K "choice_count" "choice_count" s_choice_count c.f_choice_count c.d_choice_count := Fun.ofD c.D_choice_count
theorem bi_choice_count (c : Facts K mg) : Binds K c.d_choice_count P_choice_count [] := c.D_choice_count.bindsN fun _ _ _ _ _ _ us hl => match us, hl with | [_], _ => rfl
theorem Facts.F_choices (c : Facts K mg) : Fun K "choices" "choices" s_choices c.f_choices c.d_choices := Fun.ofD c.D_choices
theorem bi_choices (c : Facts K mg) : Binds K c.d_choices P_choices [] := c.D_choices.bindsN fun _ _ _ _ _ _ us hl => match us, hl with | [_], _ => rfl
theorem Facts.F_element (c : Facts K mg) : Fun K "element" "element" s_element c.f_element c.d_element := Fun.ofD c.D_element
theorem bi_element (c : Facts K mg) : Binds K c.d_element P_element [] := c.D_element.bindsN fun _ _ _ _ _ _ us hl => match us, hl with | [_, _], _ => rfl
theorem Facts.F_raised (c : Facts K mg) : Fun K "raised" "raised" s_raised c.f_raised c.d_raised := Fun.ofD c.D_raised
theorem bi_raised (c : Facts K mg) : Binds K c.d_raised P_raised [] := c.D_raised.bindsN fun _ _ _ _ _ _ us hl => match us, hl with | [_, _, _], _ => rfl
theorem Facts.F_worth (c : Facts K mg) : Fun K "worth" "worth" s_worth c.f_worth c.d_worth := Fun.ofD c.D_worth
theorem bi_worth (c : Facts K mg) : Binds K c.d_worth P_worth [] := c.D_worth.bindsN fun _ _ _ _ _ _ us hl => match us, hl with | [_, _, _], _ => rfl
theorem Facts.F_common_zeros (c : Facts K mg) : Fun K "common_zeros" "common_zeros" s_common_zeros c.f_common_zeros c.d_common_zeros := Fun.ofD c.D_common_zeros
theorem bi_common_zeros (c : Facts K mg) : Binds K c.d_common_zeros P_common_zeros [] := c.D_common_zeros.bindsN fun _ _ _ _ _ _ us hl => match us, hl with | [_, _, _], _ => rfl
theorem Facts.F_product_of (c : Facts K mg) : Fun K "product_of" "product_of" s_product_of c.f_product_of c.d_product_of := Fun.ofD c.D_product_of
theorem bi_product_of (c : Facts K mg) : Binds K c.d_product_of P_product_of [] := c.D_product_of.bindsN fun _ _ _ _ _ _ us hl => match us, hl with | [_], _ => rfl
theorem Facts.F_least_shape (c : Facts K mg) : Fun K "least_shape" "least_shape" s_least_shape c.f_least_shape c.d_least_shape := Fun.ofD c.D_least_shape
theorem bi_least_shape (c : Facts K mg) : Binds K c.d_least_shape P_least_shape [] := c.D_least_shape.bindsN fun _ _ _ _ _ _ us hl => match us, hl with | [_, _], _ => rfl
theorem Facts.F_least_picks (c : Facts K mg) : Fun K "least_picks" "least_picks" s_least_picks c.f_least_picks c.d_least_picks := Fun.ofD c.D_least_picks
theorem bi_least_picks (c : Facts K mg) : Binds K c.d_least_picks P_least_picks [] := c.D_least_picks.bindsN fun _ _ _ _ _ _ us hl => match us, hl with | [_, _], _ => rfl
theorem Facts.F_lengths_of (c : Facts K mg) : Fun K "lengths_of" "lengths_of" s_lengths_of c.f_lengths_of c.d_lengths_of := Fun.ofD c.D_lengths_of
theorem bi_lengths_of (c : Facts K mg) : Binds K c.d_lengths_of P_lengths_of [] := c.D_lengths_of.bindsN fun _ _ _ _ _ _ us hl => match us, hl with | [_], _ => rfl
theorem Facts.F_degree (c : Facts K mg) : Fun K "degree" "degree" s_degree c.f_degree c.d_degree := Fun.ofD c.D_degree
theorem bi_degree (c : Facts K mg) : Binds K c.d_degree P_degree [] := c.D_degree.bindsN fun _ _ _ _ _ _ us hl => match us, hl with | [_], _ => rfl
theorem Facts.F_load (c : Facts K mg) : Fun K "load" "load" s_load c.f_load c.d_load := Fun.ofD c.D_load
theorem bi_load (c : Facts K mg) : Binds K c.d_load P_load [] := c.D_load.bindsN fun _ _ _ _ _ _ us hl => match us, hl with | [_, _], _ => rfl
theorem Facts.F_fewest_zeros (c : Facts K mg) : Fun K "fewest_zeros" "fewest_zeros" s_fewest_zeros c.f_fewest_zeros c.d_fewest_zeros := Fun.ofD c.D_fewest_zeros
theorem bi_fewest_zeros (c : Facts K mg) : Binds K c.d_fewest_zeros P_fewest_zeros [] := c.D_fewest_zeros.bindsN fun _ _ _ _ _ _ us hl => match us, hl with | [_, _, _], _ => rfl
theorem Facts.F__law_lengths (c : Facts K mg) : Fun K "_law_lengths" "_law_lengths" s__law_lengths c.f__law_lengths c.d__law_lengths := Fun.ofD c.D__law_lengths
theorem bi__law_lengths (c : Facts K mg) : Binds K c.d__law_lengths P__law_lengths [] := c.D__law_lengths.bindsN fun _ _ _ _ _ _ us hl => match us, hl with | [_], _ => rfl
theorem Facts.F__law_degree (c : Facts K mg) : Fun K "_law_degree" "_law_degree" s__law_degree c.f__law_degree c.d__law_degree := Fun.ofD c.D__law_degree
theorem bi__law_degree (c : Facts K mg) : Binds K c.d__law_degree P__law_degree [] := c.D__law_degree.bindsN fun _ _ _ _ _ _ us hl => match us, hl with | [_], _ => rfl
theorem Facts.F__law_load (c : Facts K mg) : Fun K "_law_load" "_law_load" s__law_load c.f__law_load c.d__law_load := Fun.ofD c.D__law_load
theorem bi__law_load (c : Facts K mg) : Binds K c.d__law_load P__law_load [] := c.D__law_load.bindsN fun _ _ _ _ _ _ us hl => match us, hl with | [_, _], _ => rfl
theorem Facts.F_law (c : Facts K mg) : Fun K "law" "law" s_law c.f_law c.d_law := Fun.ofD c.D_law
theorem bi_law (c : Facts K mg) : Binds K c.d_law P_law [] := c.D_law.bindsN fun _ _ _ _ _ _ us hl => match us, hl with | [_], _ => rfl
theorem ok__law_draw {ec : Nat → Value} (c : Facts K mg) : FnG P w K mg base 1 c.f__law_draw c.d__law_draw P__law_draw (spM K ec P__law_draw.length [0] g__law_draw) :=
  fn_body c.F__law_draw sc__law_draw (by decide) (by decide) fun cdv A outer s H E gd hr => (show MSs _ _ _ _ m__law_draw from
    mss_cons (ms_setLcD 2 [("cell", 4)] sc__law_draw.nd rfl (mi_seq (md_fz (mo_scrTake 0 48))) (blkOk_by (N := N__law_draw) (sc := defScope s__law_draw) (by decide +kernel)) (bg_name 4 sc__law_draw.nd) (fun _ _ _ _ _ => mts_nil) (fun _ _ _ _ _ => md_b call_abs pure_abs c.b_abs (by decide +kernel) (ma_cons (md_ty call_int1 pure_int c.b_int (by decide +kernel) (ma_cons (md_var 4) ma_nil)) ma_nil)) (sw_true rfl rfl rfl (by decide +kernel))) (mss_cons (ms_set 3 sc__law_draw.nd rfl (md_op op_addD pure_addD md_int (md_op op_mulW pure_mul md_int (md_var 1)))) (mss_cons (ms_for (vs := [4]) _ (passes_of rfl) (mi_seq (md_var 2)) (mg_name 4 sc__law_draw.nd rfl rfl) (mss_one (ms_set 3 sc__law_draw.nd rfl (md_op op_modN pure_mod (md_ty call_int1 pure_int c.b_int (by decide +kernel) (ma_cons (md_op op_addD pure_addD (md_op op_addD pure_addD (md_op op_mulW pure_mul (md_var 3) md_int) (md_op op_modN pure_mod (md_var 4) md_int)) md_int) ma_nil)) md_int)))) (mss_one (ms_retO (mo_dealNew 3 (mo_rev (md_fz (mo_lc [("cell", 4)] sc__law_draw.nd (mi_seq (md_var 2)) (blkOk_by (N := N__law_draw) (sc := defScope s__law_draw) (by decide +kernel)) (bg_name 4 sc__law_draw.nd) (fun _ _ _ _ _ => mts_one (mt_cmp op_ge pure_ge (md_var 4) (md_op op_pow pure_pow md_int md_int) (nomark _))) (fun _ _ _ _ _ => md_var 4))))))))))
theorem ok__law_any {ec : Nat → Value} (c : Facts K mg) : FnG P w K mg base 1 c.f__law_any c.d__law_any P__law_any (spM K ec P__law_any.length [0] g__law_any) :=
  fn_body c.F__law_any sc__law_any (by decide) (by decide) fun cdv A outer s H E gd hr => (show MSs _ _ _ _ m__law_any from
    mss_cons (ms_while _ _ (passes_of rfl) (mt_of (mw_and (mt_dealNe 0 (by have := hr.un; show (A.deeper _).units + 64 < cLine; omega)) (mw_and1 (mt_cmp (op_eqD (by have := hr.un; show (A.deeper _).units + 64 < cLine; omega)) pure_eq (md_dealLast 0) md_int (nomark _))))) (mss_one (ms_do (md_dealPop 0)))) (mss_cons (ms_if (mt_dealNe 0 (by have := hr.un; show (A.deeper _).units + 64 < cLine; omega)) (mss_cons (ms_set 2 sc__law_any.nd rfl (md_ty call_int1 pure_int c.b_int (by decide +kernel) (ma_cons (md_dealPop 0) ma_nil))) (mss_cons (ms_dealApp 0 2 1) (mss_one (ms_ret (md_op op_modN pure_mod (md_var 2) (md_var 1)))))) mss_nil) (mss_cons (ms_dealSetB 0 (md_op op_modN pure_mod (md_ty call_int1 pure_int c.b_int (by decide +kernel) (ma_cons (md_op op_addD pure_addD (md_op op_mulW pure_mul (md_dealB 0) md_int) md_int) ma_nil)) md_int)) (mss_one (ms_ret (md_op op_modN pure_mod (md_ty call_int1 pure_int c.b_int (by decide +kernel) (ma_cons (md_op op_fdivW pure_div (md_dealB 0) md_int) ma_nil)) (md_var 1)))))))
theorem ok__law_of {ec : Nat → Value} (c : Facts K mg) : FnG P w K mg base 2 c.f__law_of c.d__law_of P__law_of (spM K ec P__law_of.length [0] g__law_of) :=
  fn_body c.F__law_of sc__law_of (by decide) (by decide) fun cdv A outer s H E gd hr => (show MSs _ _ _ _ m__law_of from
    mss_one (ms_ret (md_ix (md_var 1) (md_fz (mo_callIO 0 (ok__law_any (ec := ec) c) gOf_len (by decide) gd (hr.mono (by decide)) (takes_of rfl rfl rfl rfl) c.m__law_any c.F__law_any.kp (bi__law_any c) (ma_cons (md_b call_len pure_len c.b_len (by decide +kernel) (ma_cons (md_var 1) ma_nil)) ma_nil))) fun _ _ => rfl)))
theorem ok_unknown {ec : Nat → Value} (c : Facts K mg) : FnG P w K mg base 1 c.f_unknown c.d_unknown P_unknown (spM K ec P_unknown.length [] g_unknown) :=
  fn_body c.F_unknown sc_unknown (by decide) (by decide) fun cdv A outer s H E gd hr => (show MSs _ _ _ _ m_unknown from
    mss_one (ms_ret (md_tup (ma_cons (md_tup (ma_cons (md_ty call_tuple_of pure_tuple c.b_tuple (by decide +kernel) (ma_cons (md_fz (mo_lc [("one", 3)] sc_unknown.nd (mi_rng1 c.b_range (ma_cons (md_var 1) ma_nil)) (blkOk_by (N := N_unknown) (sc := defScope s_unknown) (by decide +kernel)) (bg_name 3 sc_unknown.nd) (fun _ _ _ _ _ => mts_nil) (fun _ _ _ _ _ => md_if (mt_cmp (op_eqX (by have := hr.un; show (A.deeper _).units + 64 < cLine; omega)) pure_eqX (md_var 3) (md_var 2) (nomark _)) md_int md_int))) ma_nil)) (ma_cons md_int ma_nil))) ma_nil))))
theorem ok_zero_unknowns {ec : Nat → Value} (c : Facts K mg) : FnG P w K mg base 2 c.f_zero_unknowns c.d_zero_unknowns P_zero_unknowns (spM K ec P_zero_unknowns.length [] g_zero_unknowns) :=
  fn_body c.F_zero_unknowns sc_zero_unknowns (by decide) (by decide) fun cdv A outer s H E gd hr => (show MSs _ _ _ _ m_zero_unknowns from
    mss_one (ms_ret (md_ty call_tuple_of pure_tuple c.b_tuple (by decide +kernel) (ma_cons (md_fz (mo_lc [("at", 3)] sc_zero_unknowns.nd (mi_rng1 c.b_range (ma_cons (md_var 2) ma_nil)) (blkOk_by (N := N_zero_unknowns) (sc := defScope s_zero_unknowns) (by decide +kernel)) (bg_name 3 sc_zero_unknowns.nd) (fun _ _ _ _ _ => mts_nil) (fun _ _ _ _ _ => md_fz (mo_call (ok_unknown (ec := ec) c) gOf_len gd (hr.mono (by decide)) takes0 c.m_unknown c.F_unknown.kp (bi_unknown c) (ma_cons (md_var 0) (ma_cons (md_var 1) (ma_cons (md_var 3) ma_nil))))))) ma_nil))))
theorem ok__law_element {ec : Nat → Value} (c : Facts K mg) : FnG P w K mg base 1 c.f__law_element c.d__law_element P__law_element (spM K ec P__law_element.length [] g__law_element) :=
  fn_body c.F__law_element sc__law_element (by decide) (by decide) fun cdv A outer s H E gd hr => (show MSs _ _ _ _ m__law_element from
    mss_one (ms_ret (md_if (mt_cmp (op_eqX (by have := hr.un; show (A.deeper _).units + 64 < cLine; omega)) pure_eqX (md_var 0) md_int (nomark _)) (md_var 1) (md_op op_modN pure_mod (md_ty call_int1 pure_int c.b_int (by decide +kernel) (ma_cons (md_var 1) ma_nil)) (md_var 0)))))
theorem ok__law_tidy {ec : Nat → Value} (c : Facts K mg) : FnG P w K mg base 2 c.f__law_tidy c.d__law_tidy P__law_tidy (spM K ec P__law_tidy.length [] g__law_tidy) :=
  fn_body c.F__law_tidy sc__law_tidy (by decide) (by decide) fun cdv A outer s H E gd hr => (show MSs _ _ _ _ m__law_tidy from
    mss_one (ms_ret (md_ty call_tuple_of pure_tuple c.b_tuple (by decide +kernel) (ma_cons (md_fz (mo_lc [("powers", 2)] sc__law_tidy.nd (mi_seq (md_fz (mo_b (callR_or (call_sortA (by have := hr.un; show (A.deeper _).units + 66 < cLine; omega)) (call_sortX rfl (by have := hr.un; show (A.deeper _).units + 66 < cLine; omega))) fresh_sortX c.b_sorted (by decide +kernel) (ma_cons (md_var 1) ma_nil)))) (blkOk_by (N := N__law_tidy) (sc := defScope s__law_tidy) (by decide +kernel)) (bg_name 2 sc__law_tidy.nd) (fun _ _ _ _ _ => mts_one (mt_cmp (op_neX (by have := hr.un; show (A.deeper _).units + 64 < cLine; omega)) pure_neX (md_fz (mo_call (ok__law_element (ec := ec) c) gOf_len gd (hr.mono (by decide)) takes0 c.m__law_element c.F__law_element.kp (bi__law_element c) (ma_cons (md_var 0) (ma_cons (md_ixX (by have := hr.un; show (A.deeper _).units + 1 < cLine; omega) (md_var 1) (md_var 2) fun _ _ => rfl) ma_nil)))) md_int (nomark _))) (fun _ _ _ _ _ => md_tup (ma_cons (md_var 2) (ma_cons (md_fz (mo_call (ok__law_element (ec := ec) c) gOf_len gd (hr.mono (by decide)) takes0 c.m__law_element c.F__law_element.kp (bi__law_element c) (ma_cons (md_var 0) (ma_cons (md_ixX (by have := hr.un; show (A.deeper _).units + 1 < cLine; omega) (md_var 1) (md_var 2) fun _ _ => rfl) ma_nil)))) ma_nil))))) ma_nil))))
theorem ok__law_some {ec : Nat → Value} (c : Facts K mg) : FnG P w K mg base 2 c.f__law_some c.d__law_some P__law_some (spM K ec P__law_some.length [0] g__law_some) :=
  fn_body c.F__law_some sc__law_some (by decide) (by decide) fun cdv A outer s H E gd hr => (show MSs _ _ _ _ m__law_some from
    mss_one (ms_ret (md_if (mt_cmp (op_eqX (by have := hr.un; show (A.deeper _).units + 64 < cLine; omega)) pure_eqX (md_var 1) md_int (nomark _)) (md_op op_sub pure_sub (md_fz (mo_callIO 0 (ok__law_any (ec := ec) c) gOf_len (by decide) gd (hr.mono (by decide)) (takes_of rfl rfl rfl rfl) c.m__law_any c.F__law_any.kp (bi__law_any c) (ma_cons md_int ma_nil))) md_int) (md_fz (mo_callIO 0 (ok__law_any (ec := ec) c) gOf_len (by decide) gd (hr.mono (by decide)) (takes_of rfl rfl rfl rfl) c.m__law_any c.F__law_any.kp (bi__law_any c) (ma_cons (md_var 1) ma_nil))))))
theorem ok__law_polynomial {ec : Nat → Value} (c : Facts K mg) : FnG P w K mg base 3 c.f__law_polynomial c.d__law_polynomial P__law_polynomial (spM K ec P__law_polynomial.length [0] g__law_polynomial) :=
  fn_body c.F__law_polynomial sc__law_polynomial (by decide) (by decide) fun cdv A outer s H E gd hr => (show MSs _ _ _ _ m__law_polynomial from
    mss_cons (ms_setO 5 sc__law_polynomial.nd rfl mo_dnewT) (mss_cons (ms_for (vs := [6]) _ (passes_of rfl) (mi_rng1 c.b_range (ma_cons (md_fz (mo_callIO 0 (ok__law_any (ec := ec) c) gOf_len (by decide) gd (hr.mono (by decide)) (takes_of rfl rfl rfl rfl) c.m__law_any c.F__law_any.kp (bi__law_any c) (ma_cons (md_op op_addD pure_addD (md_var 3) md_int) ma_nil))) ma_nil)) (mg_name 6 sc__law_polynomial.nd rfl rfl) (mss_cons (ms_set 7 sc__law_polynomial.nd rfl (md_ty call_tuple_of pure_tuple c.b_tuple (by decide +kernel) (ma_cons (md_fz (mo_lc [("at", 8)] sc__law_polynomial.nd (mi_rng1 c.b_range (ma_cons (md_var 2) ma_nil)) (blkOk_by (N := N__law_polynomial) (sc := defScope s__law_polynomial) (by decide +kernel)) (bg_name 8 sc__law_polynomial.nd) (fun _ _ _ _ _ => mts_nil) (fun _ _ _ _ _ => md_if (mt_cmp op_gt pure_gt (md_fz (mo_callIO 0 (ok__law_any (ec := ec) c) gOf_len (by decide) gd (hr.mono (by decide)) takes0 c.m__law_any c.F__law_any.kp (bi__law_any c) (ma_cons md_int ma_nil))) md_int (nomark _)) (md_fz (mo_callIO 0 (ok__law_any (ec := ec) c) gOf_len (by decide) gd (hr.mono (by decide)) takes0 c.m__law_any c.F__law_any.kp (bi__law_any c) (ma_cons (md_op op_addD pure_addD (md_var 4) md_int) ma_nil))) md_int))) ma_nil))) (mss_one (ms_dput 5 (by have := hr.un; show (A.deeper _).units + 1 < cLine; omega) (md_var 7) (md_fz (mo_callIO 0 (ok__law_some (ec := ec) c) gOf_len (by decide) gd (hr.mono (by decide)) (takes_of rfl rfl rfl rfl) c.m__law_some c.F__law_some.kp (bi__law_some c) (ma_cons (md_var 1) ma_nil))))))) (mss_one (ms_retO (mo_call (ok__law_tidy (ec := ec) c) gOf_len gd (hr.mono (by decide)) (takes_of rfl rfl rfl rfl) c.m__law_tidy c.F__law_tidy.kp (bi__law_tidy c) (ma_cons (md_var 1) (ma_cons (md_var 5) ma_nil)))))))
theorem ok__law_choices {ec : Nat → Value} (c : Facts K mg) : FnG P w K mg base 1 c.f__law_choices c.d__law_choices P__law_choices (spM K ec P__law_choices.length [] g__law_choices) :=
  fn_body c.F__law_choices sc__law_choices (by decide) (by decide) fun cdv A outer s H E gd hr => (show MSs _ _ _ _ m__law_choices from
    mss_cons (ms_set 1 sc__law_choices.nd rfl (md_fz (mo_lst (ma_cons (md_tup ma_nil) ma_nil)))) (mss_cons (ms_for (vs := [2]) _ (passes_of rfl) (mi_seq (md_var 0)) (mg_name 2 sc__law_choices.nd rfl rfl) (mss_cons (ms_set 3 sc__law_choices.nd rfl (md_fz (mo_lst ma_nil))) (mss_cons (ms_for (vs := [4]) _ (passes_of rfl) (mi_seq (md_var 1)) (mg_name 4 sc__law_choices.nd rfl rfl) (mss_one (ms_set 3 sc__law_choices.nd rfl (md_op op_addD pure_addD (md_var 3) (md_fz (mo_lc [("one", 5)] sc__law_choices.nd (mi_seq (md_var 2)) (blkOk_by (N := N__law_choices) (sc := defScope s__law_choices) (by decide +kernel)) (bg_name 5 sc__law_choices.nd) (fun _ _ _ _ _ => mts_nil) (fun _ _ _ _ _ => md_op op_addD pure_addD (md_var 4) (md_tup (ma_cons (md_var 5) ma_nil))))))))) (mss_one (ms_set 1 sc__law_choices.nd rfl (md_var 3)))))) (mss_one (ms_retO (mo_mv 1)))))
theorem ok__law_power {ec : Nat → Value} (c : Facts K mg) : FnG P w K mg base 2 c.f__law_power c.d__law_power P__law_power (spM K ec P__law_power.length [] g__law_power) :=
  fn_body c.F__law_power sc__law_power (by decide) (by decide) fun cdv A outer s H E gd hr => (show MSs _ _ _ _ m__law_power from
    mss_cons (ms_set 3 sc__law_power.nd rfl md_int) (mss_cons (ms_for (vs := [4]) _ (passes_of rfl) (mi_rng1 c.b_range (ma_cons (md_var 2) ma_nil)) (mg_name 4 sc__law_power.nd rfl rfl) (mss_one (ms_set 3 sc__law_power.nd rfl (md_fz (mo_call (ok__law_element (ec := ec) c) gOf_len gd (hr.mono (by decide)) (takes_of rfl rfl rfl rfl) c.m__law_element c.F__law_element.kp (bi__law_element c) (ma_cons (md_var 0) (ma_cons (md_op op_mulA pure_mulX (md_var 3) (md_var 1)) ma_nil))))))) (mss_one (ms_retO (mo_mv 3)))))
theorem ok__law_worth {ec : Nat → Value} (c : Facts K mg) : FnG P w K mg base 3 c.f__law_worth c.d__law_worth P__law_worth (spM K ec P__law_worth.length [] g__law_worth) :=
  fn_body c.F__law_worth sc__law_worth (by decide) (by decide) fun cdv A outer s H E gd hr => (show MSs _ _ _ _ m__law_worth from
    mss_cons (ms_set 3 sc__law_worth.nd rfl md_int) (mss_cons (ms_for (vs := [4, 5]) _ (passes_of rfl) (mi_seq (md_var 1)) (mg_tup (mgs_cons (mg_name 4 sc__law_worth.nd rfl rfl) (mgs_cons (mg_name 5 sc__law_worth.nd rfl rfl) mgs_nil))) (mss_cons (ms_for (vs := [6, 7]) _ (passes_of rfl) (mi_enum c.b_enumerate (ma_cons (md_var 4) ma_nil)) (mg_tup (mgs_cons (mg_name 6 sc__law_worth.nd rfl rfl) (mgs_cons (mg_name 7 sc__law_worth.nd rfl rfl) mgs_nil))) (mss_one (ms_set 5 sc__law_worth.nd rfl (md_op op_mulA pure_mulX (md_var 5) (md_fz (mo_call (ok__law_power (ec := ec) c) gOf_len gd (hr.mono (by decide)) (takes_of rfl rfl rfl rfl) c.m__law_power c.F__law_power.kp (bi__law_power c) (ma_cons (md_var 0) (ma_cons (md_ix (md_var 2) (md_var 6) fun _ _ => rfl) (ma_cons (md_var 7) ma_nil))))))))) (mss_one (ms_set 3 sc__law_worth.nd rfl (md_fz (mo_call (ok__law_element (ec := ec) c) gOf_len gd (hr.mono (by decide)) (takes_of rfl rfl rfl rfl) c.m__law_element c.F__law_element.kp (bi__law_element c) (ma_cons (md_var 0) (ma_cons (md_op op_addD pure_addD (md_var 3) (md_var 5)) ma_nil)))))))) (mss_one (ms_retO (mo_mv 3)))))
theorem ok__law_zeros {ec : Nat → Value} (c : Facts K mg) : FnG P w K mg base 4 c.f__law_zeros c.d__law_zeros P__law_zeros (spM K ec P__law_zeros.length [] g__law_zeros) :=
  fn_body c.F__law_zeros sc__law_zeros (by decide) (by decide) fun cdv A outer s H E gd hr => (show MSs _ _ _ _ m__law_zeros from
    mss_one (ms_retO (mo_lc [("choice", 3)] sc__law_zeros.nd (mi_seq (md_fz (mo_call (ok__law_choices (ec := ec) c) gOf_len gd (hr.mono (by decide)) (takes_of rfl rfl rfl rfl) c.m__law_choices c.F__law_choices.kp (bi__law_choices c) (ma_cons (md_var 2) ma_nil)))) (blkOk_by (N := N__law_zeros) (sc := defScope s__law_zeros) (by decide +kernel)) (bg_name 3 sc__law_zeros.nd) (fun _ _ _ _ _ => mts_one (mt_cmp (op_eqX (by have := hr.un; show (A.deeper _).units + 64 < cLine; omega)) pure_eqX (md_fz (mo_lc [("one", 4)] sc__law_zeros.nd (mi_seq (md_var 1)) (blkOk_by rfl) (bg_name 4 sc__law_zeros.nd) (fun _ _ _ _ _ => mts_one (mt_cmp (op_neX (by have := hr.un; show (A.deeper _).units + 64 < cLine; omega)) pure_neX (md_fz (mo_call (ok__law_worth (ec := ec) c) gOf_len gd (hr.mono (by decide)) takes0 c.m__law_worth c.F__law_worth.kp (bi__law_worth c) (ma_cons (md_var 0) (ma_cons (md_var 4) (ma_cons (md_var 3) ma_nil))))) md_int (nomark _))) (fun _ _ _ _ _ => md_var 4))) (md_fz (mo_lst ma_nil)) (nomark _))) (fun _ _ _ _ _ => md_var 3))))
theorem ok__law_product {ec : Nat → Value} (c : Facts K mg) : FnG P w K mg base 1 c.f__law_product c.d__law_product P__law_product (spM K ec P__law_product.length [] g__law_product) :=
  fn_body c.F__law_product sc__law_product (by decide) (by decide) fun cdv A outer s H E gd hr => (show MSs _ _ _ _ m__law_product from
    mss_cons (ms_set 1 sc__law_product.nd rfl md_int) (mss_cons (ms_for (vs := [2]) _ (passes_of rfl) (mi_seq (md_var 0)) (mg_name 2 sc__law_product.nd rfl rfl) (mss_one (ms_set 1 sc__law_product.nd rfl (md_op op_mulA pure_mulX (md_var 1) (md_var 2))))) (mss_one (ms_retO (mo_mv 1)))))
theorem ok__law_mixed {ec : Nat → Value} (c : Facts K mg) : FnG P w K mg base 2 c.f__law_mixed c.d__law_mixed P__law_mixed (spM K ec P__law_mixed.length [0] g__law_mixed) :=
  fn_body c.F__law_mixed sc__law_mixed (by decide) (by decide) fun cdv A outer s H E gd hr => (show MSs _ _ _ _ m__law_mixed from
    mss_cons (ms_par2 2 3 sc__law_mixed.nd rfl rfl (mo_ty call_list_of fresh_list c.b_list (by decide +kernel) (ma_cons (md_var 1) ma_nil)) (mo_lst ma_nil) (by rfl)) (mss_cons (ms_while _ _ (passes_of rfl) (mt_ownNe 2 (by have := hr.un; show (A.deeper _).units + 64 < cLine; omega)) (mss_one (ms_app 3 (md_popAt 2 (md_fz (mo_callIO 0 (ok__law_any (ec := ec) c) gOf_len (by decide) gd (hr.mono (by decide)) (takes_of rfl rfl rfl rfl) c.m__law_any c.F__law_any.kp (bi__law_any c) (ma_cons (md_ownLen 2 c.b_len) ma_nil))))))) (mss_one (ms_retO (mo_mv 3)))))
theorem ok__law_lists {ec : Nat → Value} (c : Facts K mg) : FnG P w K mg base 3 c.f__law_lists c.d__law_lists P__law_lists (spM K ec P__law_lists.length [0] g__law_lists) :=
  fn_body c.F__law_lists sc__law_lists (by decide) (by decide) fun cdv A outer s H E gd hr => (show MSs _ _ _ _ m__law_lists from
    mss_cons (ms_setO 4 sc__law_lists.nd rfl (mo_lst ma_nil)) (mss_cons (ms_for (vs := [5]) _ (passes_of rfl) (mi_rng1 c.b_range (ma_cons (md_var 2) ma_nil)) (mg_name 5 sc__law_lists.nd rfl rfl) (mss_cons (ms_set 6 sc__law_lists.nd rfl (md_fz (mo_callIO 0 (ok__law_mixed (ec := ec) c) gOf_len (by decide) gd (hr.mono (by decide)) (takes_of rfl rfl rfl rfl) c.m__law_mixed c.F__law_mixed.kp (bi__law_mixed c) (ma_cons (md_if (mt_cmp (op_eqX (by have := hr.un; show (A.deeper _).units + 64 < cLine; omega)) pure_eqX (md_var 1) md_int (nomark _)) (md_fz (mo_listRg2 c.b_list c.b_range (md_un un_neg pure_neg md_int) md_int)) (md_fz (mo_listRg1 c.b_list c.b_range (md_var 1)))) ma_nil)))) (mss_one (ms_app 4 (md_ty call_tuple_of pure_tuple c.b_tuple (by decide +kernel) (ma_cons (md_fz (mo_b (call_sortA (by have := hr.un; show (A.deeper _).units + 66 < cLine; omega)) fresh_sort c.b_sorted (by decide +kernel) (ma_cons (md_fz (mo_slice (md_var 6) mp_none (mp_some (md_op op_addD pure_addD md_int (md_fz (mo_callIO 0 (ok__law_any (ec := ec) c) gOf_len (by decide) gd (hr.mono (by decide)) (takes_of rfl rfl rfl rfl) c.m__law_any c.F__law_any.kp (bi__law_any c) (ma_cons (md_b (call_min2 rfl) pure_min2 c.b_min (by decide +kernel) (ma_cons (md_var 3) (ma_cons (md_b call_len pure_len c.b_len (by decide +kernel) (ma_cons (md_var 6) ma_nil)) ma_nil))) ma_nil))))))) ma_nil))) ma_nil)))))) (mss_one (ms_ret (md_ty call_tuple_of pure_tuple c.b_tuple (by decide +kernel) (ma_cons (md_var 4) ma_nil))))))
theorem ok__law_plus {ec : Nat → Value} (c : Facts K mg) : FnG P w K mg base 3 c.f__law_plus c.d__law_plus P__law_plus (spM K ec P__law_plus.length [] g__law_plus) :=
  fn_body c.F__law_plus sc__law_plus (by decide) (by decide) fun cdv A outer s H E gd hr => (show MSs _ _ _ _ m__law_plus from
    mss_cons (ms_setO 3 sc__law_plus.nd rfl mo_dnewT) (mss_cons (ms_for (vs := [4, 5]) _ (passes_of rfl) (mi_seq (md_op op_addD pure_addD (md_var 1) (md_var 2))) (mg_tup (mgs_cons (mg_name 4 sc__law_plus.nd rfl rfl) (mgs_cons (mg_name 5 sc__law_plus.nd rfl rfl) mgs_nil))) (mss_one (ms_dput 3 (by have := hr.un; show (A.deeper _).units + 1 < cLine; omega) (md_var 4) (md_op op_addD pure_addD (md_dget 3 (by have := hr.un; show (A.deeper _).units + 1 < cLine; omega) (md_var 4) md_int) (md_var 5))))) (mss_one (ms_retO (mo_call (ok__law_tidy (ec := ec) c) gOf_len gd (hr.mono (by decide)) (takes_of rfl rfl rfl rfl) c.m__law_tidy c.F__law_tidy.kp (bi__law_tidy c) (ma_cons (md_var 0) (ma_cons (md_var 3) ma_nil)))))))
theorem ok__law_least {ec : Nat → Value} (c : Facts K mg) : FnG P w K mg base 1 c.f__law_least c.d__law_least P__law_least (spM K ec P__law_least.length [] g__law_least) :=
  fn_body c.F__law_least sc__law_least (by decide) (by decide) fun cdv A outer s H E gd hr => (show MSs _ _ _ _ m__law_least from
    mss_cons (ms_setO 2 sc__law_least.nd rfl (mo_ty call_list_of fresh_list c.b_list (by decide +kernel) (ma_cons (md_var 0) ma_nil))) (mss_cons (ms_for (vs := [3]) _ (passes_of rfl) (mi_rng1 c.b_range (ma_cons (md_var 1) ma_nil)) (mg_name 3 sc__law_least.nd rfl rfl) (mss_cons (ms_setLcD 4 [("at", 5)] sc__law_least.nd rfl (mi_rng1 c.b_range (ma_cons (md_ownLen 2 c.b_len) ma_nil)) (blkOk_by (N := N__law_least) (sc := defScope s__law_least) (by decide +kernel)) (bg_name 5 sc__law_least.nd) (fun _ _ _ _ _ => mts_one (mt_cmp op_gt pure_gt (md_ownIx 2 (md_var 5) fun _ _ => rfl) md_int (nomark _))) (fun _ _ _ _ _ => md_var 5) (sw_true rfl rfl rfl (by decide +kernel))) (mss_one (ms_if (mt_cmp (op_neX (by have := hr.un; show (A.deeper _).units + 64 < cLine; omega)) pure_neX (md_var 4) (md_fz (mo_lst ma_nil)) (nomark _)) (mss_cons (ms_set 5 sc__law_least.nd rfl (md_ix (md_b (call_minA rfl (by have := hr.un; show (A.deeper _).units + 66 < cLine; omega)) pure_best c.b_min (by decide +kernel) (ma_cons (md_fz (mo_lc [("one", 6)] sc__law_least.nd (mi_seq (md_var 4)) (blkOk_by (N := N__law_least) (sc := defScope s__law_least) (by decide +kernel)) (bg_name 6 sc__law_least.nd) (fun _ _ _ _ _ => mts_nil) (fun _ _ _ _ _ => md_tup (ma_cons (md_ix (md_var 0) (md_var 6) fun _ _ => rfl) (ma_cons (md_var 6) ma_nil))))) ma_nil)) md_int fun _ _ => rfl)) (mss_one (ms_setIx 2 (md_var 5) (md_op op_sub pure_sub (md_ownIx 2 (md_var 5) fun _ _ => rfl) md_int)))) mss_nil)))) (mss_one (ms_ret (md_ty call_tuple_of pure_tuple c.b_tuple (by decide +kernel) (ma_cons (md_var 2) ma_nil))))))
theorem ok_choice_count {ec : Nat → Value} (c : Facts K mg) : FnG P w K mg base 1 c.f_choice_count c.d_choice_count P_choice_count (spM K ec P_choice_count.length [] g_choice_count) :=
  fn_body c.F_choice_count sc_choice_count (by decide) (by decide) fun cdv A outer s H E gd hr => (show MSs _ _ _ _ m_choice_count from
    mss_cons (ms_set 1 sc_choice_count.nd rfl md_int) (mss_cons (ms_for (vs := [2]) _ (passes_of rfl) (mi_seq (md_var 0)) (mg_name 2 sc_choice_count.nd rfl rfl) (mss_one (ms_set 1 sc_choice_count.nd rfl (md_op op_mulA pure_mulX (md_var 1) (md_b call_len pure_len c.b_len (by decide +kernel) (ma_cons (md_var 2) ma_nil)))))) (mss_one (ms_retO (mo_mv 1)))))
theorem ok_choices {ec : Nat → Value} (c : Facts K mg) : FnG P w K mg base 2 c.f_choices c.d_choices P_choices (spM K ec P_choices.length [] g_choices) :=
  fn_body c.F_choices sc_choices (by decide) (by decide) fun cdv A outer s H E gd hr => (show MSs _ _ _ _ m_choices from
    mss_cons (ms_if (mt_cmp op_gt pure_gt (md_fz (mo_call (ok_choice_count (ec := ec) c) gOf_len gd (hr.mono (by decide)) (takes_of rfl rfl rfl rfl) c.m_choice_count c.F_choice_count.kp (bi_choice_count c) (ma_cons (md_var 0) ma_nil))) (md_globI c.c_MOST_CHOICES) (nomark _)) (mss_one ms_never) mss_nil) (mss_cons (ms_set 1 sc_choices.nd rfl (md_fz (mo_lst (ma_cons (md_tup ma_nil) ma_nil)))) (mss_cons (ms_for (vs := [2]) _ (passes_of rfl) (mi_seq (md_var 0)) (mg_name 2 sc_choices.nd rfl rfl) (mss_one (ms_setLc2D 1 [("choice", 3), ("one", 4)] [4] sc_choices.nd rfl (mi_seq (md_var 1)) (blkOk_by (N := N_choices) (sc := defScope s_choices) (by decide +kernel)) (bg_name 3 sc_choices.nd) (fun _ _ _ _ _ => mi_seq (md_var 2)) (bg_name 4 sc_choices.nd) (fun _ _ _ _ _ => md_tup (ma_star (md_var 3) (ma_cons (md_var 4) ma_nil))) (sw_true rfl rfl rfl (by decide +kernel))))) (mss_one (ms_ret (md_ty call_tuple_of pure_tuple c.b_tuple (by decide +kernel) (ma_cons (md_var 1) ma_nil)))))))
theorem ok_element {ec : Nat → Value} (c : Facts K mg) : FnG P w K mg base 1 c.f_element c.d_element P_element (spM K ec P_element.length [] g_element) :=
  fn_body c.F_element sc_element (by decide) (by decide) fun cdv A outer s H E gd hr => (show MSs _ _ _ _ m_element from
    mss_one (ms_ret (md_if (mt_cmp (op_eqX (by have := hr.un; show (A.deeper _).units + 64 < cLine; omega)) pure_eqX (md_var 0) md_int (nomark _)) (md_var 1) (md_op op_modN pure_mod (md_ty call_int1 pure_int c.b_int (by decide +kernel) (ma_cons (md_var 1) ma_nil)) (md_var 0)))))
theorem ok_raised {ec : Nat → Value} (c : Facts K mg) : FnG P w K mg base 2 c.f_raised c.d_raised P_raised (spM K ec P_raised.length [] g_raised) :=
  fn_body c.F_raised sc_raised (by decide) (by decide) fun cdv A outer s H E gd hr => (show MSs _ _ _ _ m_raised from
    mss_cons (ms_set 3 sc_raised.nd rfl md_int) (mss_cons (ms_for (vs := [4]) _ (passes_of rfl) (mi_rng1 c.b_range (ma_cons (md_var 2) ma_nil)) (mg_name 4 sc_raised.nd rfl rfl) (mss_one (ms_set 3 sc_raised.nd rfl (md_fz (mo_call (ok_element (ec := ec) c) gOf_len gd (hr.mono (by decide)) (takes_of rfl rfl rfl rfl) c.m_element c.F_element.kp (bi_element c) (ma_cons (md_var 0) (ma_cons (md_op op_mulA pure_mulX (md_var 3) (md_var 1)) ma_nil))))))) (mss_one (ms_retO (mo_mv 3)))))
theorem ok_worth {ec : Nat → Value} (c : Facts K mg) : FnG P w K mg base 3 c.f_worth c.d_worth P_worth (spM K ec P_worth.length [] g_worth) :=
  fn_body c.F_worth sc_worth (by decide) (by decide) fun cdv A outer s H E gd hr => (show MSs _ _ _ _ m_worth from
    mss_cons (ms_set 3 sc_worth.nd rfl md_int) (mss_cons (ms_for (vs := [4, 5]) _ (passes_of rfl) (mi_seq (md_var 1)) (mg_tup (mgs_cons (mg_name 4 sc_worth.nd rfl rfl) (mgs_cons (mg_name 5 sc_worth.nd rfl rfl) mgs_nil))) (mss_cons (ms_for (vs := [6, 7]) _ (passes_of rfl) (mi_zip c.b_zip (ma_cons (md_var 2) (ma_cons (md_var 4) ma_nil))) (mg_tup (mgs_cons (mg_name 6 sc_worth.nd rfl rfl) (mgs_cons (mg_name 7 sc_worth.nd rfl rfl) mgs_nil))) (mss_one (ms_set 5 sc_worth.nd rfl (md_fz (mo_call (ok_element (ec := ec) c) gOf_len gd (hr.mono (by decide)) (takes_of rfl rfl rfl rfl) c.m_element c.F_element.kp (bi_element c) (ma_cons (md_var 0) (ma_cons (md_op op_mulA pure_mulX (md_var 5) (md_fz (mo_call (ok_raised (ec := ec) c) gOf_len gd (hr.mono (by decide)) (takes_of rfl rfl rfl rfl) c.m_raised c.F_raised.kp (bi_raised c) (ma_cons (md_var 0) (ma_cons (md_var 6) (ma_cons (md_var 7) ma_nil)))))) ma_nil))))))) (mss_one (ms_set 3 sc_worth.nd rfl (md_fz (mo_call (ok_element (ec := ec) c) gOf_len gd (hr.mono (by decide)) (takes_of rfl rfl rfl rfl) c.m_element c.F_element.kp (bi_element c) (ma_cons (md_var 0) (ma_cons (md_op op_addD pure_addD (md_var 3) (md_var 5)) ma_nil)))))))) (mss_one (ms_retO (mo_mv 3)))))
theorem ok_common_zeros {ec : Nat → Value} (c : Facts K mg) : FnG P w K mg base 4 c.f_common_zeros c.d_common_zeros P_common_zeros (spM K ec P_common_zeros.length [] g_common_zeros) :=
  fn_body c.F_common_zeros sc_common_zeros (by decide) (by decide) fun cdv A outer s H E gd hr => (show MSs _ _ _ _ m_common_zeros from
    mss_one (ms_ret (md_ty call_tuple_of pure_tuple c.b_tuple (by decide +kernel) (ma_cons (md_fz (mo_lc [("choice", 3)] sc_common_zeros.nd (mi_seq (md_fz (mo_call (ok_choices (ec := ec) c) gOf_len gd (hr.mono (by decide)) (takes_of rfl rfl rfl rfl) c.m_choices c.F_choices.kp (bi_choices c) (ma_cons (md_var 2) ma_nil)))) (blkOk_by (N := N_common_zeros) (sc := defScope s_common_zeros) (by decide +kernel)) (bg_name 3 sc_common_zeros.nd) (fun _ _ _ _ _ => mts_one (mt_val (md_b (cr_all rfl) pure_all c.b_all (by decide +kernel) (ma_cons (md_fz (mo_lc [("one", 4)] sc_common_zeros.nd (mi_seq (md_var 1)) (blkOk_by rfl) (bg_name 4 sc_common_zeros.nd) (fun _ _ _ _ _ => mts_nil) (fun _ _ _ _ _ => md_cmp (op_eqX (by have := hr.un; show (A.deeper _).units + 64 < cLine; omega)) pure_eqX (md_fz (mo_call (ok_worth (ec := ec) c) gOf_len gd (hr.mono (by decide)) takes0 c.m_worth c.F_worth.kp (bi_worth c) (ma_cons (md_var 0) (ma_cons (md_var 4) (ma_cons (md_var 3) ma_nil))))) md_int (nomark _)))) ma_nil)))) (fun _ _ _ _ _ => md_var 3))) ma_nil))))
theorem ok_product_of {ec : Nat → Value} (c : Facts K mg) : FnG P w K mg base 1 c.f_product_of c.d_product_of P_product_of (spM K ec P_product_of.length [] g_product_of) :=
  fn_body c.F_product_of sc_product_of (by decide) (by decide) fun cdv A outer s H E gd hr => (show MSs _ _ _ _ m_product_of from
    mss_cons (ms_set 1 sc_product_of.nd rfl md_int) (mss_cons (ms_for (vs := [2]) _ (passes_of rfl) (mi_seq (md_var 0)) (mg_name 2 sc_product_of.nd rfl rfl) (mss_one (ms_set 1 sc_product_of.nd rfl (md_op op_mulA pure_mulX (md_var 1) (md_var 2))))) (mss_one (ms_retO (mo_mv 1)))))
theorem ok_least_shape {ec : Nat → Value} (c : Facts K mg) : FnG P w K mg base 1 c.f_least_shape c.d_least_shape P_least_shape (spM K ec P_least_shape.length [] g_least_shape) :=
  fn_body c.F_least_shape sc_least_shape (by decide) (by decide) fun cdv A outer s H E gd hr => (show MSs _ _ _ _ m_least_shape from
    mss_cons (ms_setO 2 sc_least_shape.nd rfl (mo_ty call_list_of fresh_list c.b_list (by decide +kernel) (ma_cons (md_var 0) ma_nil))) (mss_cons (ms_for (vs := [3, 4]) _ (passes_of rfl) (mi_seq (md_fz (mo_b (call_sortA (by have := hr.un; show (A.deeper _).units + 66 < cLine; omega)) fresh_sort c.b_sorted (by decide +kernel) (ma_cons (md_fz (mo_lc [("at", 4), ("length", 3)] sc_least_shape.nd (mi_enum c.b_enumerate (ma_cons (md_var 0) ma_nil)) (blkOk_by (N := N_least_shape) (sc := defScope s_least_shape) (by decide +kernel)) (bg_tup (bgs_cons (bg_name 4 sc_least_shape.nd) (bgs_cons (bg_name 3 sc_least_shape.nd) bgs_nil))) (fun _ _ _ _ _ => mts_nil) (fun _ _ _ _ _ => md_tup (ma_cons (md_var 3) (ma_cons (md_var 4) ma_nil))))) ma_nil)))) (mg_tup (mgs_cons (mg_name 3 sc_least_shape.nd rfl rfl) (mgs_cons (mg_name 4 sc_least_shape.nd rfl rfl) mgs_nil))) (mss_cons (ms_set 5 sc_least_shape.nd rfl (md_b (call_min2 rfl) pure_min2 c.b_min (by decide +kernel) (ma_cons (md_var 1) (ma_cons (md_op op_sub pure_sub (md_var 3) md_int) ma_nil)))) (mss_cons (ms_setIx 2 (md_var 4) (md_op op_sub pure_sub (md_var 3) (md_var 5))) (mss_one (ms_set 1 sc_least_shape.nd rfl (md_op op_sub pure_sub (md_var 1) (md_var 5))))))) (mss_one (ms_ret (md_ty call_tuple_of pure_tuple c.b_tuple (by decide +kernel) (ma_cons (md_var 2) ma_nil))))))
theorem ok_least_picks {ec : Nat → Value} (c : Facts K mg) : FnG P w K mg base 2 c.f_least_picks c.d_least_picks P_least_picks (spM K ec P_least_picks.length [] g_least_picks) :=
  fn_body c.F_least_picks sc_least_picks (by decide) (by decide) fun cdv A outer s H E gd hr => (show MSs _ _ _ _ m_least_picks from
    mss_one (ms_retO (mo_call (ok_product_of (ec := ec) c) gOf_len gd (hr.mono (by decide)) (takes_of rfl rfl rfl rfl) c.m_product_of c.F_product_of.kp (bi_product_of c) (ma_cons (md_fz (mo_call (ok_least_shape (ec := ec) c) gOf_len gd (hr.mono (by decide)) (takes_of rfl rfl rfl rfl) c.m_least_shape c.F_least_shape.kp (bi_least_shape c) (ma_cons (md_var 0) (ma_cons (md_var 1) ma_nil)))) ma_nil))))
theorem ok_lengths_of {ec : Nat → Value} (c : Facts K mg) : FnG P w K mg base 1 c.f_lengths_of c.d_lengths_of P_lengths_of (spM K ec P_lengths_of.length [] g_lengths_of) :=
  fn_body c.F_lengths_of sc_lengths_of (by decide) (by decide) fun cdv A outer s H E gd hr => (show MSs _ _ _ _ m_lengths_of from
    mss_one (ms_ret (md_ty call_tuple_of pure_tuple c.b_tuple (by decide +kernel) (ma_cons (md_fz (mo_lc [("row", 1)] sc_lengths_of.nd (mi_seq (md_var 0)) (blkOk_by (N := N_lengths_of) (sc := defScope s_lengths_of) (by decide +kernel)) (bg_name 1 sc_lengths_of.nd) (fun _ _ _ _ _ => mts_nil) (fun _ _ _ _ _ => md_b call_len pure_len c.b_len (by decide +kernel) (ma_cons (md_var 1) ma_nil)))) ma_nil))))
theorem ok_degree {ec : Nat → Value} (c : Facts K mg) : FnG P w K mg base 1 c.f_degree c.d_degree P_degree (spM K ec P_degree.length [] g_degree) :=
  fn_body c.F_degree sc_degree (by decide) (by decide) fun cdv A outer s H E gd hr => (show MSs _ _ _ _ m_degree from
    mss_one (ms_ret (md_b (call_maxA rfl (by have := hr.un; show (A.deeper _).units + 66 < cLine; omega)) pure_best c.b_max (by decide +kernel) (ma_cons (md_fz (mo_lst (ma_cons (md_un un_neg pure_neg md_int) (ma_star (md_fz (mo_lc [("powers", 1), ("factor", 2)] sc_degree.nd (mi_seq (md_var 0)) (blkOk_by (N := N_degree) (sc := defScope s_degree) (by decide +kernel)) (bg_tup (bgs_cons (bg_name 1 sc_degree.nd) (bgs_cons (bg_name 2 sc_degree.nd) bgs_nil))) (fun _ _ _ _ _ => mts_nil) (fun _ _ _ _ _ => md_b (call_sumA rfl) pure_sum c.b_sum (by decide +kernel) (ma_cons (md_var 1) ma_nil)))) ma_nil)))) ma_nil))))
theorem ok_load {ec : Nat → Value} (c : Facts K mg) : FnG P w K mg base 2 c.f_load c.d_load P_load (spM K ec P_load.length [] g_load) :=
  fn_body c.F_load sc_load (by decide) (by decide) fun cdv A outer s H E gd hr => (show MSs _ _ _ _ m_load from
    mss_one (ms_ret (md_op op_mulA pure_mulX (md_op op_sub pure_sub (md_var 0) md_int) (md_b (call_sumA rfl) pure_sum c.b_sum (by decide +kernel) (ma_cons (md_fz (mo_lc [("one", 2)] sc_load.nd (mi_seq (md_var 1)) (blkOk_by (N := N_load) (sc := defScope s_load) (by decide +kernel)) (bg_name 2 sc_load.nd) (fun _ _ _ _ _ => mts_nil) (fun _ _ _ _ _ => md_b (call_max2 rfl) pure_max2 c.b_max (by decide +kernel) (ma_cons md_int (ma_cons (md_fz (mo_call (ok_degree (ec := ec) c) gOf_len gd (hr.mono (by decide)) takes0 c.m_degree c.F_degree.kp (bi_degree c) (ma_cons (md_var 2) ma_nil))) ma_nil))))) ma_nil)))))
theorem ok_fewest_zeros {ec : Nat → Value} (c : Facts K mg) : FnG P w K mg base 3 c.f_fewest_zeros c.d_fewest_zeros P_fewest_zeros (spM K ec P_fewest_zeros.length [] g_fewest_zeros) :=
  fn_body c.F_fewest_zeros sc_fewest_zeros (by decide) (by decide) fun cdv A outer s H E gd hr => (show MSs _ _ _ _ m_fewest_zeros from
    mss_one (ms_retO (mo_call (ok_least_picks (ec := ec) c) gOf_len gd (hr.mono (by decide)) (takes_of rfl rfl rfl rfl) c.m_least_picks c.F_least_picks.kp (bi_least_picks c) (ma_cons (md_fz (mo_call (ok_lengths_of (ec := ec) c) gOf_len gd (hr.mono (by decide)) (takes_of rfl rfl rfl rfl) c.m_lengths_of c.F_lengths_of.kp (bi_lengths_of c) (ma_cons (md_var 2) ma_nil))) (ma_cons (md_fz (mo_call (ok_load (ec := ec) c) gOf_len gd (hr.mono (by decide)) (takes_of rfl rfl rfl rfl) c.m_load c.F_load.kp (bi_load c) (ma_cons (md_var 0) (ma_cons (md_var 1) ma_nil)))) ma_nil)))))
theorem ok__law_lengths {ec : Nat → Value} (c : Facts K mg) : FnG P w K mg base 1 c.f__law_lengths c.d__law_lengths P__law_lengths (spM K ec P__law_lengths.length [] g__law_lengths) :=
  fn_body c.F__law_lengths sc__law_lengths (by decide) (by decide) fun cdv A outer s H E gd hr => (show MSs _ _ _ _ m__law_lengths from
    mss_one (ms_ret (md_ty call_tuple_of pure_tuple c.b_tuple (by decide +kernel) (ma_cons (md_fz (mo_lc [("row", 1)] sc__law_lengths.nd (mi_seq (md_var 0)) (blkOk_by (N := N__law_lengths) (sc := defScope s__law_lengths) (by decide +kernel)) (bg_name 1 sc__law_lengths.nd) (fun _ _ _ _ _ => mts_nil) (fun _ _ _ _ _ => md_b call_len pure_len c.b_len (by decide +kernel) (ma_cons (md_var 1) ma_nil)))) ma_nil))))
theorem ok__law_degree {ec : Nat → Value} (c : Facts K mg) : FnG P w K mg base 1 c.f__law_degree c.d__law_degree P__law_degree (spM K ec P__law_degree.length [] g__law_degree) :=
  fn_body c.F__law_degree sc__law_degree (by decide) (by decide) fun cdv A outer s H E gd hr => (show MSs _ _ _ _ m__law_degree from
    mss_one (ms_ret (md_b (call_maxA rfl (by have := hr.un; show (A.deeper _).units + 66 < cLine; omega)) pure_best c.b_max (by decide +kernel) (ma_cons (md_op op_addD pure_addD (md_fz (mo_lst (ma_cons (md_un un_neg pure_neg md_int) ma_nil))) (md_fz (mo_lc [("powers", 1), ("factor", 2)] sc__law_degree.nd (mi_seq (md_var 0)) (blkOk_by (N := N__law_degree) (sc := defScope s__law_degree) (by decide +kernel)) (bg_tup (bgs_cons (bg_name 1 sc__law_degree.nd) (bgs_cons (bg_name 2 sc__law_degree.nd) bgs_nil))) (fun _ _ _ _ _ => mts_nil) (fun _ _ _ _ _ => md_b (call_sumA rfl) pure_sum c.b_sum (by decide +kernel) (ma_cons (md_var 1) ma_nil))))) ma_nil))))
theorem ok__law_load {ec : Nat → Value} (c : Facts K mg) : FnG P w K mg base 2 c.f__law_load c.d__law_load P__law_load (spM K ec P__law_load.length [] g__law_load) :=
  fn_body c.F__law_load sc__law_load (by decide) (by decide) fun cdv A outer s H E gd hr => (show MSs _ _ _ _ m__law_load from
    mss_one (ms_ret (md_op op_mulA pure_mulX (md_op op_sub pure_sub (md_var 0) md_int) (md_b (call_sumA rfl) pure_sum c.b_sum (by decide +kernel) (ma_cons (md_fz (mo_lc [("one", 2)] sc__law_load.nd (mi_seq (md_var 1)) (blkOk_by (N := N__law_load) (sc := defScope s__law_load) (by decide +kernel)) (bg_name 2 sc__law_load.nd) (fun _ _ _ _ _ => mts_nil) (fun _ _ _ _ _ => md_b (call_max2 rfl) pure_max2 c.b_max (by decide +kernel) (ma_cons md_int (ma_cons (md_fz (mo_call (ok__law_degree (ec := ec) c) gOf_len gd (hr.mono (by decide)) takes0 c.m__law_degree c.F__law_degree.kp (bi__law_degree c) (ma_cons (md_var 2) ma_nil))) ma_nil))))) ma_nil)))))
theorem ok_law {ec : Nat → Value} (c : Facts K mg) : FnG P w K mg base 5 c.f_law c.d_law P_law (spM K ec P_law.length [] g_law) :=
  fn_body c.F_law sc_law (by decide) (by decide) fun cdv A outer s H E gd hr => (show MSs _ _ _ _ m_law from
    mss_cons (ms_setO 1 sc_law.nd rfl (mo_callIO 0 (ok__law_draw (ec := ec) c) gOf_len (by decide) gd (hr.mono (by decide)) (takes_of rfl rfl rfl rfl) c.m__law_draw c.F__law_draw.kp (bi__law_draw c) (ma_cons md_int ma_nil))) (mss_cons (ms_for (vs := [2]) _ (passes_of rfl) (mi_rng1 c.b_range (ma_cons md_int ma_nil)) (mg_name 2 sc_law.nd rfl rfl) (mss_cons (ms_asgT (vs := [8, 9]) (md_fz (mo_callIO 1 (ok__law_of (ec := ec) c) gOf_len (by decide) gd (hr.mono (by decide)) (takes_of rfl rfl rfl rfl) c.m__law_of c.F__law_of.kp (bi__law_of c) (ma_cons (md_fz (mo_lst (ma_cons (md_tup (ma_cons md_int (ma_cons md_int ma_nil))) (ma_cons (md_tup (ma_cons md_int (ma_cons md_int ma_nil))) (ma_cons (md_tup (ma_cons md_int (ma_cons md_int ma_nil))) (ma_cons (md_tup (ma_cons md_int (ma_cons md_int ma_nil))) (ma_cons (md_tup (ma_cons md_int (ma_cons md_int ma_nil))) (ma_cons (md_tup (ma_cons md_int (ma_cons md_int ma_nil))) (ma_cons (md_tup (ma_cons md_int (ma_cons md_int ma_nil))) ma_nil))))))))) ma_nil))) (mg_tup (mgs_cons (mg_name 8 sc_law.nd rfl rfl) (mgs_cons (mg_name 9 sc_law.nd rfl rfl) mgs_nil)))) (mss_cons (ms_par2 10 11 sc_law.nd rfl rfl (mo_d (md_op op_mulA pure_mulX (md_tup (ma_cons (md_fz (mo_tupRg1 c.b_tuple c.b_range (md_var 8))) ma_nil)) (md_var 9))) (mo_d (md_fz (mo_callIO 1 (ok__law_any (ec := ec) c) gOf_len (by decide) gd (hr.mono (by decide)) (takes_of rfl rfl rfl rfl) c.m__law_any c.F__law_any.kp (bi__law_any c) (ma_cons md_int ma_nil)))) (by rfl)) (mss_cons (ms_set 3 sc_law.nd rfl (md_if (mt_cmp (op_eqX (by have := hr.un; show (A.deeper _).units + 64 < cLine; omega)) pure_eqX (md_var 11) md_int (nomark _)) (md_var 10) (md_if (mt_cmp (op_eqX (by have := hr.un; show (A.deeper _).units + 64 < cLine; omega)) pure_eqX (md_var 11) md_int (nomark _)) (md_op op_mulA pure_mulX (md_tup (ma_cons (md_tup (ma_cons md_int (ma_cons md_int ma_nil))) ma_nil)) (md_var 9)) (md_fz (mo_callIO 1 (ok__law_lists (ec := ec) c) gOf_len (by decide) gd (hr.mono (by decide)) (takes_of rfl rfl rfl rfl) c.m__law_lists c.F__law_lists.kp (bi__law_lists c) (ma_cons (md_var 8) (ma_cons (md_var 9) (ma_cons md_int ma_nil)))))))) (mss_cons (ms_par2 5 12 sc_law.nd rfl rfl (mo_lst ma_nil) (mo_d (md_fz (mo_callIO 1 (ok__law_of (ec := ec) c) gOf_len (by decide) gd (hr.mono (by decide)) (takes_of rfl rfl rfl rfl) c.m__law_of c.F__law_of.kp (bi__law_of c) (ma_cons (md_fz (mo_call (ok__law_choices (ec := ec) c) gOf_len gd (hr.mono (by decide)) (takes_of rfl rfl rfl rfl) c.m__law_choices c.F__law_choices.kp (bi__law_choices c) (ma_cons (md_var 3) ma_nil))) ma_nil)))) (by rfl)) (mss_cons (ms_for (vs := [4]) _ (passes_of rfl) (mi_rng1 c.b_range (ma_cons (md_fz (mo_callIO 1 (ok__law_any (ec := ec) c) gOf_len (by decide) gd (hr.mono (by decide)) (takes_of rfl rfl rfl rfl) c.m__law_any c.F__law_any.kp (bi__law_any c) (ma_cons md_int ma_nil))) ma_nil)) (mg_name 4 sc_law.nd rfl rfl) (mss_cons (ms_set 13 sc_law.nd rfl (md_fz (mo_callIO 1 (ok__law_polynomial (ec := ec) c) gOf_len (by decide) gd (hr.mono (by decide)) (takes_of rfl rfl rfl rfl) c.m__law_polynomial c.F__law_polynomial.kp (bi__law_polynomial c) (ma_cons (md_var 8) (ma_cons (md_var 9) (ma_cons md_int (ma_cons md_int ma_nil))))))) (mss_one (ms_app 5 (md_fz (mo_call (ok__law_plus (ec := ec) c) gOf_len gd (hr.mono (by decide)) (takes_of rfl rfl rfl rfl) c.m__law_plus c.F__law_plus.kp (bi__law_plus c) (ma_cons (md_var 8) (ma_cons (md_var 13) (ma_cons (md_fz (mo_call (ok__law_tidy (ec := ec) c) gOf_len gd (hr.mono (by decide)) (takes_of rfl rfl rfl rfl) c.m__law_tidy c.F__law_tidy.kp (bi__law_tidy c) (ma_cons (md_var 8) (ma_cons (md_fzT (mo_disp (by have := hr.un; show (A.deeper _).units + 1 < cLine; omega) (mps_cons (md_op op_mulA pure_mulX (md_tup (ma_cons md_int ma_nil)) (md_var 9)) (md_op op_sub pure_sub md_int (md_fz (mo_call (ok__law_worth (ec := ec) c) gOf_len gd (hr.mono (by decide)) takes0 c.m__law_worth c.F__law_worth.kp (bi__law_worth c) (ma_cons (md_var 8) (ma_cons (md_var 13) (ma_cons (md_var 12) ma_nil)))))) mps_nil))) ma_nil)))) ma_nil))))))))) (mss_cons (ms_set 5 sc_law.nd rfl (md_ty call_tuple_of pure_tuple c.b_tuple (by decide +kernel) (ma_cons (md_var 5) ma_nil))) (mss_cons (ms_par2 14 15 sc_law.nd rfl rfl (mo_d (md_fz (mo_call (ok__law_zeros (ec := ec) c) gOf_len gd (hr.mono (by decide)) (takes_of rfl rfl rfl rfl) c.m__law_zeros c.F__law_zeros.kp (bi__law_zeros c) (ma_cons (md_var 8) (ma_cons (md_var 5) (ma_cons (md_var 3) ma_nil)))))) (mo_d (md_fz (mo_call (ok__law_product (ec := ec) c) gOf_len gd (hr.mono (by decide)) (takes_of rfl rfl rfl rfl) c.m__law_product c.F__law_product.kp (bi__law_product c) (ma_cons (md_fz (mo_call (ok__law_least (ec := ec) c) gOf_len gd (hr.mono (by decide)) (takes_of rfl rfl rfl rfl) c.m__law_least c.F__law_least.kp (bi__law_least c) (ma_cons (md_fz (mo_call (ok__law_lengths (ec := ec) c) gOf_len gd (hr.mono (by decide)) (takes_of rfl rfl rfl rfl) c.m__law_lengths c.F__law_lengths.kp (bi__law_lengths c) (ma_cons (md_var 3) ma_nil))) (ma_cons (md_fz (mo_call (ok__law_load (ec := ec) c) gOf_len gd (hr.mono (by decide)) (takes_of rfl rfl rfl rfl) c.m__law_load c.F__law_load.kp (bi__law_load c) (ma_cons (md_var 8) (ma_cons (md_var 5) ma_nil)))) ma_nil)))) ma_nil)))) (by rfl)) (mss_cons (ms_if (mt_of (mw_or (mt_cmp (op_neX (by have := hr.un; show (A.deeper _).units + 64 < cLine; omega)) pure_neX (md_b (call_repr gd (by have := hr.un; show (A.deeper _).units + 110 < cLine; omega)) pure_repr c.b_repr (by decide +kernel) (ma_cons (md_fz (mo_call (ok_fewest_zeros (ec := ec) c) gOf_len gd (hr.mono (by decide)) (takes_of rfl rfl rfl rfl) c.m_fewest_zeros c.F_fewest_zeros.kp (bi_fewest_zeros c) (ma_cons (md_var 8) (ma_cons (md_var 5) (ma_cons (md_var 3) ma_nil))))) ma_nil)) (md_b (call_repr gd (by have := hr.un; show (A.deeper _).units + 110 < cLine; omega)) pure_repr c.b_repr (by decide +kernel) (ma_cons (md_var 15) ma_nil)) (nomark _)) (mw_or (mt_cmp (op_eqX (by have := hr.un; show (A.deeper _).units + 64 < cLine; omega)) pure_eqX (md_var 14) (md_fz (mo_lst ma_nil)) (nomark _)) (mw_or1 (mt_cmp op_lt pure_lt (md_b call_len pure_len c.b_len (by decide +kernel) (ma_cons (md_var 14) ma_nil)) (md_var 15) (nomark _)))))) (mss_one (ms_ret md_bl)) mss_nil) (mss_cons (ms_if (mt_cmp (op_neX (by have := hr.un; show (A.deeper _).units + 64 < cLine; omega)) pure_neX (md_b (call_repr gd (by have := hr.un; show (A.deeper _).units + 110 < cLine; omega)) pure_repr c.b_repr (by decide +kernel) (ma_cons (md_fz (mo_call (ok_common_zeros (ec := ec) c) gOf_len gd (hr.mono (by decide)) (takes_of rfl rfl rfl rfl) c.m_common_zeros c.F_common_zeros.kp (bi_common_zeros c) (ma_cons (md_var 8) (ma_cons (md_var 5) (ma_cons (md_var 3) ma_nil))))) ma_nil)) (md_b (call_repr gd (by have := hr.un; show (A.deeper _).units + 110 < cLine; omega)) pure_repr c.b_repr (by decide +kernel) (ma_cons (md_ty call_tuple_of pure_tuple c.b_tuple (by decide +kernel) (ma_cons (md_var 14) ma_nil)) ma_nil)) (nomark _)) (mss_one (ms_ret md_bl)) mss_nil) (mss_cons (ms_set 6 sc_law.nd rfl (md_fz (mo_callIO 1 (ok__law_any (ec := ec) c) gOf_len (by decide) gd (hr.mono (by decide)) (takes_of rfl rfl rfl rfl) c.m__law_any c.F__law_any.kp (bi__law_any c) (ma_cons (md_op op_addD pure_addD (md_var 9) md_int) ma_nil)))) (mss_cons (ms_set 7 sc_law.nd rfl (md_fz (mo_call (ok_zero_unknowns (ec := ec) c) gOf_len gd (hr.mono (by decide)) (takes_of rfl rfl rfl rfl) c.m_zero_unknowns c.F_zero_unknowns.kp (bi_zero_unknowns c) (ma_cons (md_var 8) (ma_cons (md_var 9) (ma_cons (md_var 6) ma_nil)))))) (mss_one (ms_if (mt_of (mw_or (mt_cmp (op_neX (by have := hr.un; show (A.deeper _).units + 64 < cLine; omega)) pure_neX (md_b call_len pure_len c.b_len (by decide +kernel) (ma_cons (md_fz (mo_call (ok__law_zeros (ec := ec) c) gOf_len gd (hr.mono (by decide)) (takes_of rfl rfl rfl rfl) c.m__law_zeros c.F__law_zeros.kp (bi__law_zeros c) (ma_cons (md_var 8) (ma_cons (md_var 7) (ma_cons (md_var 10) ma_nil))))) ma_nil)) (md_fz (mo_call (ok__law_product (ec := ec) c) gOf_len gd (hr.mono (by decide)) (takes_of rfl rfl rfl rfl) c.m__law_product c.F__law_product.kp (bi__law_product c) (ma_cons (md_fz (mo_rep (md_fz (mo_lst (ma_cons (md_var 8) ma_nil))) (md_op op_sub pure_sub (md_var 9) (md_var 6)))) ma_nil))) (nomark _)) (mw_or1 (mt_cmp (op_neX (by have := hr.un; show (A.deeper _).units + 64 < cLine; omega)) pure_neX (md_fz (mo_call (ok_fewest_zeros (ec := ec) c) gOf_len gd (hr.mono (by decide)) (takes_of rfl rfl rfl rfl) c.m_fewest_zeros c.F_fewest_zeros.kp (bi_fewest_zeros c) (ma_cons (md_var 8) (ma_cons (md_var 7) (ma_cons (md_var 10) ma_nil))))) (md_fz (mo_call (ok__law_product (ec := ec) c) gOf_len gd (hr.mono (by decide)) (takes_of rfl rfl rfl rfl) c.m__law_product c.F__law_product.kp (bi__law_product c) (ma_cons (md_fz (mo_rep (md_fz (mo_lst (ma_cons (md_var 8) ma_nil))) (md_op op_sub pure_sub (md_var 9) (md_var 6)))) ma_nil))) (nomark _))))) (mss_one (ms_ret md_bl)) mss_nil)))))))))))))) (mss_one (ms_ret md_bl))))
end
end K36
namespace K36
open PySem PySem.Spec L2 Lp
abbrev P2 := Int × Nat
def le2 (p q : P2) : Prop := p.1 < q.1 ∨ (p.1 = q.1 ∧ p.2 ≤ q.2)
instance (p q : P2) : Decidable (le2 p q) := by unfold le2; infer_instance
def pD (p : P2) : D := .tuple [.int p.1, .int (p.2 : Nat)]
theorem le2_antisymm {p q : P2} (h : le2 p q) (h' : le2 q p) : p = q := by
  unfold le2 at h h'
  have h1 : p.1 = q.1 := by omega
  have h2 : p.2 = q.2 := by omega
  exact Prod.ext h1 h2
theorem le2_trans {p q r : P2} (h : le2 p q) (h' : le2 q r) : le2 p r := by unfold le2 at *; omega
theorem le2_total (p q : P2) : le2 p q ∨ le2 q p := by unfold le2; omega
def greedy : List P2 → Int → List Int → List Int
  | [], _, f => f
  | (l, a) :: r, d, f => greedy r (d - min d (l - 1)) (f.set a (l - min d (l - 1)))
def stepF (L : List P2) (f : List Int) : List Int := match L.find? (fun p : P2 => decide (1 < f.getD p.2 0)) with
  | none => f
  | some p => f.set p.2 (f.getD p.2 0 - 1)
theorem greedy_zero : ∀ (L : List P2) (f : List Int), (∀ p ∈ L, f[p.2]? = some p.1 ∧ 1 ≤ p.1) → greedy L 0 f = f
  | [], f, _ => rfl
  | (l, a) :: r, f, h => by
    obtain ⟨h1, h2⟩ := h (l, a) (List.mem_cons_self ..)
    have e : min (0 : Int) (l - 1) = 0 := by simp only at h2; omega
    unfold greedy
    rw [e, Int.sub_zero, Int.sub_zero]
    have e2 : f.set a l = f := by
      refine List.ext_getElem? fun i => ?_
      by_cases z : a = i
      · subst z
        have hl : a < f.length := (List.getElem?_eq_some_iff.mp h1).1
        rw [List.getElem?_set_self hl]; exact h1.symm
      · rw [List.getElem?_set_ne z]
    rw [e2]
    exact greedy_zero r f fun p hp => h p (List.mem_cons_of_mem _ hp)
theorem getD_set_self {f : List Int} {a : Nat} {x : Int} (h : a < f.length) : (f.set a x).getD a 0 = x := by
  rw [List.getD_eq_getElem?_getD, List.getElem?_set_self h]; rfl
theorem getD_set_ne {f : List Int} {a b : Nat} {x : Int} (h : a ≠ b) : (f.set a x).getD b 0 = f.getD b 0 := by
  rw [List.getD_eq_getElem?_getD, List.getElem?_set_ne h, ← List.getD_eq_getElem?_getD]
theorem greedy_out : ∀ (L : List P2) (d : Int) (f : List Int) (b : Nat), (∀ p ∈ L, p.2 ≠ b) → (greedy L d f).getD b 0 = f.getD b 0
  | [], d, f, b, _ => rfl
  | (l, a) :: r, d, f, b, h => by
    unfold greedy
    rw [greedy_out r _ _ b fun p hp => h p (List.mem_cons_of_mem _ hp)]
    exact getD_set_ne (h (l, a) (List.mem_cons_self ..))
/-- one more given away -/
theorem greedy_step : ∀ (pre L : List P2) (d : Int) (f : List Int), 0 ≤ d → (∀ p ∈ pre, f.getD p.2 0 ≤ 1) → (∀ p ∈ L, f[p.2]? = some p.1 ∧ 1 ≤ p.1) → (L.map (·.2)).Nodup → (∀ p ∈ pre, ∀ q ∈ L, p.2 ≠ q.2) →
    stepF (pre ++ L) (greedy L d f) = greedy L (d + 1) f
  | pre, [], d, f, _, hp, _, _, _ => by
    unfold stepF greedy
    have : (pre ++ []).find? (fun p : P2 => decide (1 < f.getD p.2 0)) = none := by
      rw [List.find?_eq_none]
      intro p h
      have := hp p (by simpa using h)
      simp only [decide_eq_true_eq]; omega
    rw [this]
  | pre, (l, a) :: r, d, f, h0, hp, hL, nd, hd => by
    obtain ⟨h1, h2⟩ := hL (l, a) (List.mem_cons_self ..)
    have hal : a < f.length := (List.getElem?_eq_some_iff.mp h1).1
    have hnr : ∀ p ∈ r, p.2 ≠ a := fun p hp e => by
      have := (List.nodup_cons.mp nd).1
      exact this (List.mem_map.mpr ⟨p, hp, e⟩)
    have hset : ∀ x, ∀ p ∈ r, (f.set a x)[p.2]? = some p.1 ∧ 1 ≤ p.1 := fun x p hp => by
      rw [List.getElem?_set_ne (Ne.symm (hnr p hp))]
      exact hL p (List.mem_cons_of_mem _ hp)
    by_cases hc : l - 1 ≤ d
    · have e1 : min d (l - 1) = l - 1 := by omega
      have e2 : min (d + 1) (l - 1) = l - 1 := by omega
      unfold greedy
      rw [e1, e2]
      have ih := greedy_step (pre ++ [(l, a)]) r (d - (l - 1)) (f.set a (l - (l - 1))) (by omega) (fun p hpp => by
        rcases List.mem_append.mp hpp with q | q
        · rw [getD_set_ne (Ne.symm (hd p q (l, a) (List.mem_cons_self ..)))]; exact hp p q
        · rw [List.mem_singleton.mp q, getD_set_self hal]; omega) (hset _) (List.nodup_cons.mp nd).2 (fun p hpp q hq => by
        rcases List.mem_append.mp hpp with z | z
        · exact hd p z q (List.mem_cons_of_mem _ hq)
        · rw [List.mem_singleton.mp z]; exact Ne.symm (hnr q hq))
      rw [List.append_assoc] at ih
      have e3 : d + 1 - (l - 1) = d - (l - 1) + 1 := by omega
      rw [e3]
      exact ih
    · have e1 : min d (l - 1) = d := by omega
      have e2 : min (d + 1) (l - 1) = d + 1 := by omega
      unfold greedy
      rw [e1, e2, Int.sub_self, Int.sub_self, greedy_zero r _ (hset _), greedy_zero r _ (hset _)]
      unfold stepF
      have : (pre ++ (l, a) :: r).find? (fun p : P2 => decide (1 < (f.set a (l - d)).getD p.2 0)) = some (l, a) := by
        rw [List.find?_append]
        have n : pre.find? (fun p : P2 => decide (1 < (f.set a (l - d)).getD p.2 0)) = none := by
          rw [List.find?_eq_none]
          intro p h
          have q1 := hp p h
          rw [getD_set_ne (Ne.symm (hd p h (l, a) (List.mem_cons_self ..)))]
          simp only [decide_eq_true_eq]; omega
        rw [n, Option.none_or, List.find?_cons]
        have : decide (1 < (f.set a (l - d)).getD a 0) = true := by rw [getD_set_self hal]; simp; omega
        simp only [this]
      rw [this]
      simp only
      rw [getD_set_self hal, List.set_set]
      congr 1
      omega
def steps (L : List P2) (f : List Int) : Nat → List Int
  | 0 => f
  | n + 1 => stepF L (steps L f n)
theorem steps_greedy (L : List P2) (f : List Int) (hL : ∀ p ∈ L, f[p.2]? = some p.1 ∧ 1 ≤ p.1) (nd : (L.map (·.2)).Nodup) : ∀ n : Nat, steps L f n = greedy L n f
  | 0 => (greedy_zero L f hL).symm
  | n + 1 => by
    unfold steps
    rw [steps_greedy L f hL nd n]
    exact greedy_step [] L n f (by omega) (by simp) hL nd (by simp)
def prodZ (ns : List Int) : Int := ns.foldl (· * ·) 1
theorem prod_bounds : ∀ (ns : List Int) (a : Int), 1 ≤ a → (∀ n ∈ ns, 1 ≤ n ∧ n ≤ 16) → 1 ≤ ns.foldl (· * ·) a ∧ ns.foldl (· * ·) a ≤ a * 16 ^ ns.length
  | [], a, h, _ => by simp; exact h
  | n :: ns, a, h, hn => by
    obtain ⟨h1, h2⟩ := hn n (List.mem_cons_self ..)
    have hp : 0 < a * n := Int.mul_pos (by omega) (by omega)
    obtain ⟨q1, q2⟩ := prod_bounds ns (a * n) (by omega) fun m hm => hn m (List.mem_cons_of_mem _ hm)
    refine ⟨q1, Int.le_trans q2 ?_⟩
    rw [List.length_cons, Int.pow_succ, Int.mul_comm (16 ^ ns.length) 16, ← Int.mul_assoc]
    have : (0 : Int) ≤ 16 ^ ns.length := Int.pow_nonneg (by decide)
    exact Int.mul_le_mul_of_nonneg_right (Int.mul_le_mul_of_nonneg_left h2 (by omega)) this
theorem pow16 {n : Nat} (h : n ≤ 10) : (16 : Int) ^ n ≤ 1099511627776 := by
  have : (16 : Int) ^ n ≤ 16 ^ 10 := by
    have h2 : (16 : Nat) ^ n ≤ 16 ^ 10 := Nat.pow_le_pow_right (by decide) h
    exact_mod_cast h2
  exact this
theorem prod_take_bounds {ns : List Int} {k : Nat} (hn : ∀ n ∈ ns, 1 ≤ n ∧ n ≤ 16) (hl : ns.length ≤ 10) : 1 ≤ prodZ (ns.take k) ∧ prodZ (ns.take k) ≤ 1099511627776 := by
  obtain ⟨q1, q2⟩ := prod_bounds (ns.take k) 1 (by decide) fun n h => hn n (List.mem_of_mem_take h)
  have := pow16 (n := (ns.take k).length) (by rw [List.length_take]; omega)
  unfold prodZ
  omega
theorem prod_take_succ {ns : List Int} {k : Nat} {x : Int} (h : ns[k]? = some x) : prodZ (ns.take (k + 1)) = prodZ (ns.take k) * x := by
  unfold prodZ
  rw [List.take_succ, h, List.foldl_append]; rfl
theorem b1_prod {ns : List Int} {k : Nat} {x : Int} {t : Sl} (hn : ∀ n ∈ ns, 1 ≤ n ∧ n ≤ 16) (hl : ns.length ≤ 10) (h : ns[k]? = some x) : Wp (b1_product_of [t, .dat (.int (prodZ (ns.take k))), .dat (.int x)]) fun c e => c = .next ∧ e = [t, .dat (.int (prodZ (ns.take (k + 1)))), .dat (.int x)] := by
  obtain ⟨q1, q2⟩ := prod_take_bounds (k := k) hn hl
  obtain ⟨q3, q4⟩ := hn x (List.mem_of_getElem? h)
  have hm : mulX (.int (prodZ (ns.take k))) (.int x) = some (.int (prodZ (ns.take k) * x)) := mulX_int (mulD_ok (by omega) (by omega))
  unfold b1_product_of
  repeat (first
      | (with_reducible (first
        | refine i_seq ?_ | refine i_asg ?_ | refine i_asgO ?_ | refine i_asgT ?_ | refine i_ret ?_ | refine i_retO ?_ | refine i_do ?_ | refine i_if ?_ | refine i_next ?_ | refine i_brk ?_ | refine i_cnt ?_ | refine i_retN ?_
        | refine i_c ?_ | refine i_un ?_ | refine i_op ?_ | refine i_b ?_ | refine i_nil ?_ | refine i_cons ?_ | refine i_tst ?_ | refine i_and ?_ | refine i_or ?_ | refine i_not ?_ | refine i_ofT ?_ | refine i_ifE ?_ | refine i_andV ?_ | refine i_orV ?_ | refine i_notV ?_
        | refine i_isi ?_ | refine i_tup ?_ | refine i_lst ?_ | refine i_bO ?_ | refine i_fz ?_ | refine i_od ?_ | refine i_chain ?_ | refine i_call ?_ | refine i_perm ?_ | refine i_for ?_ | refine i_comp ?_ | refine i_it ?_ | refine i_itO ?_ | refine i_yes ?_))
      | (((with_reducible apply i_var); case hv => rfl))
      | ((with_reducible apply i_ofO); case ho => first | (with_reducible first | exact addD_int | exact subD_int | exact eqX_int | exact neX_int | exact eqX_str | exact neX_str | exact ltD_int | exact leD_int | exact gtD_int | exact geD_int | exact negD_int | exact intD_int | exact absD_int | exact reprD_bool | exact reprD_none) | assumption)
      | (with_reducible refine ⟨_, (by assumption : rg1 _ = some _), ?_⟩) | (with_reducible refine ⟨_, (by assumption : rg2 _ = some _), ?_⟩) | (with_reducible refine ⟨_, rg1_int (by decide), ?_⟩) | (with_reducible refine ⟨_, rg2_int (by decide) (by decide), ?_⟩)
      | (with_reducible refine ⟨_, rfl, ?_⟩)
      | ((with_reducible apply ite_t); case h => first | (with_reducible rfl) | assumption)
      | ((with_reducible apply ite_f); case h => first | (with_reducible rfl) | assumption)
      | ((with_reducible apply And.intro); case left => first | rfl | decide | exact Nat.le_of_ble_eq_true rfl))
  rw [prod_take_succ h]
  rfl
theorem product_spec {ns : List Int} (hn : ∀ n ∈ ns, 1 ≤ n ∧ n ≤ 16) (hl : ns.length ≤ 10) : Wp (g_product_of [.dat (.tuple (ns.map PyData.int))]) fun r _ => r = .dat (.int (prodZ ns)) := by
  refine (wp_gOf (by rfl)).mpr ?_
  unfold m_product_of
  repeat (first
      | (with_reducible (first
        | refine i_seq ?_ | refine i_asg ?_ | refine i_asgO ?_ | refine i_asgT ?_ | refine i_ret ?_ | refine i_retO ?_ | refine i_do ?_ | refine i_if ?_ | refine i_next ?_ | refine i_brk ?_ | refine i_cnt ?_ | refine i_retN ?_
        | refine i_c ?_ | refine i_un ?_ | refine i_op ?_ | refine i_b ?_ | refine i_nil ?_ | refine i_cons ?_ | refine i_tst ?_ | refine i_and ?_ | refine i_or ?_ | refine i_not ?_ | refine i_ofT ?_ | refine i_ifE ?_ | refine i_andV ?_ | refine i_orV ?_ | refine i_notV ?_
        | refine i_isi ?_ | refine i_tup ?_ | refine i_lst ?_ | refine i_bO ?_ | refine i_fz ?_ | refine i_od ?_ | refine i_chain ?_ | refine i_call ?_ | refine i_perm ?_ | refine i_for ?_ | refine i_comp ?_ | refine i_it ?_ | refine i_itO ?_ | refine i_yes ?_))
      | (((with_reducible apply i_var); case hv => rfl))
      | ((with_reducible apply i_ofO); case ho => first | (with_reducible first | exact addD_int | exact subD_int | exact eqX_int | exact neX_int | exact eqX_str | exact neX_str | exact ltD_int | exact leD_int | exact gtD_int | exact geD_int | exact negD_int | exact intD_int | exact absD_int | exact reprD_bool | exact reprD_none) | assumption)
      | (with_reducible refine ⟨_, (by assumption : rg1 _ = some _), ?_⟩) | (with_reducible refine ⟨_, (by assumption : rg2 _ = some _), ?_⟩) | (with_reducible refine ⟨_, rg1_int (by decide), ?_⟩) | (with_reducible refine ⟨_, rg2_int (by decide) (by decide), ?_⟩)
      | (with_reducible refine ⟨_, rfl, ?_⟩)
      | ((with_reducible apply ite_t); case h => first | (with_reducible rfl) | assumption)
      | ((with_reducible apply ite_f); case h => first | (with_reducible rfl) | assumption)
      | ((with_reducible apply And.intro); case left => first | rfl | decide | exact Nat.le_of_ble_eq_true rfl))
  refine wp_forN (fun k e => ∃ x, e = [.dat (.tuple (ns.map PyData.int)), .dat (.int (prodZ (ns.take k))), x]) ⟨_, rfl⟩ (fun k x e hx hi => ?_) fun e hi => ?_
  · obtain ⟨y, rfl⟩ := hi
    rw [List.getElem?_map] at hx
    obtain ⟨z, hz, rfl⟩ := Option.map_eq_some_iff.mp hx
    exact ⟨_, rfl, (b1_prod hn hl hz).mono fun c e h => ⟨h.1, _, h.2⟩⟩
  · obtain ⟨y, rfl⟩ := hi
    rw [List.length_map, List.take_length]
    repeat (first
        | (with_reducible (first
          | refine i_seq ?_ | refine i_asg ?_ | refine i_asgO ?_ | refine i_asgT ?_ | refine i_ret ?_ | refine i_retO ?_ | refine i_do ?_ | refine i_if ?_ | refine i_next ?_ | refine i_brk ?_ | refine i_cnt ?_ | refine i_retN ?_
          | refine i_c ?_ | refine i_un ?_ | refine i_op ?_ | refine i_b ?_ | refine i_nil ?_ | refine i_cons ?_ | refine i_tst ?_ | refine i_and ?_ | refine i_or ?_ | refine i_not ?_ | refine i_ofT ?_ | refine i_ifE ?_ | refine i_andV ?_ | refine i_orV ?_ | refine i_notV ?_
          | refine i_isi ?_ | refine i_tup ?_ | refine i_lst ?_ | refine i_bO ?_ | refine i_fz ?_ | refine i_od ?_ | refine i_chain ?_ | refine i_call ?_ | refine i_perm ?_ | refine i_for ?_ | refine i_comp ?_ | refine i_it ?_ | refine i_itO ?_ | refine i_yes ?_))
        | (((with_reducible apply i_var); case hv => rfl))
        | ((with_reducible apply i_ofO); case ho => first | (with_reducible first | exact addD_int | exact subD_int | exact eqX_int | exact neX_int | exact eqX_str | exact neX_str | exact ltD_int | exact leD_int | exact gtD_int | exact geD_int | exact negD_int | exact intD_int | exact absD_int | exact reprD_bool | exact reprD_none) | assumption)
        | (with_reducible refine ⟨_, (by assumption : rg1 _ = some _), ?_⟩) | (with_reducible refine ⟨_, (by assumption : rg2 _ = some _), ?_⟩) | (with_reducible refine ⟨_, rg1_int (by decide), ?_⟩) | (with_reducible refine ⟨_, rg2_int (by decide) (by decide), ?_⟩)
        | (with_reducible refine ⟨_, rfl, ?_⟩)
        | ((with_reducible apply ite_t); case h => first | (with_reducible rfl) | assumption)
        | ((with_reducible apply ite_f); case h => first | (with_reducible rfl) | assumption)
        | ((with_reducible apply And.intro); case left => first | rfl | decide | exact Nat.le_of_ble_eq_true rfl))
    exact i_mv rfl rfl
theorem lproduct_spec {ns : List Int} (hn : ∀ n ∈ ns, 1 ≤ n ∧ n ≤ 16) (hl : ns.length ≤ 10) : Wp (g__law_product [.dat (.tuple (ns.map PyData.int))]) fun r _ => r = .dat (.int (prodZ ns)) := product_spec hn hl
def pairs (lens : List Int) : List P2 := (List.range lens.length).map fun i => (lens.getD i 0, i)
def ord (lens : List Int) : List P2 := (pairs lens).mergeSort (PySem.W.dataLe false pD)
theorem le_eq (p q : P2) : PySem.W.dataLe false pD p q = decide (le2 p q) := by
  have := congrFun (congrFun (PySem.W.dataLe_ii (fun p : P2 => p.1) (fun p : P2 => (p.2 : Int))) p) q
  have e : PySem.W.dataLe false pD p q = decide (p.1 < q.1 ∨ p.1 = q.1 ∧ (p.2 : Int) ≤ (q.2 : Int)) := this
  rw [e]
  unfold le2
  congr 1
  simp
theorem alike_pD (p q : P2) : PySem.W.alike (pD p) (pD q) = true := by simp [PySem.W.alike, PySem.W.alikeAll, pD]
theorem sort_pairs {ps : List P2} (h : ps.length ≤ 16777216) : sortF [.list (ps.map pD)] = some ((ps.mergeSort (PySem.W.dataLe false pD)).map pD) := by
  have ok : sortOk (ps.map pD) = true := by
    unfold sortOk alikeB
    have d1 : PyData.canLayAll0 (ps.map pD) = true ∧ PyData.depthAll (ps.map pD) ≤ 1 := by
      clear h
      induction ps with
      | nil => exact ⟨rfl, Nat.zero_le _⟩
      | cons p ps ih => simp [PyData.canLayAll0, PyData.depthAll, pD, PyData.canLay0, PyData.depth, ih.1]; have := ih.2; omega
    simp only [Bool.and_eq_true, Bool.or_eq_true, List.all_eq_true, decide_eq_true_eq, List.length_map]
    refine ⟨⟨⟨⟨⟨fun x hx y hy => ?_, fun x hx => ?_⟩, d1.1⟩, by omega⟩, h⟩, .inl fun x hx => ?_⟩
    · obtain ⟨p, _, rfl⟩ := List.mem_map.mp hx
      obtain ⟨q, _, rfl⟩ := List.mem_map.mp hy
      exact alike_pD p q
    · obtain ⟨p, _, rfl⟩ := List.mem_map.mp hx
      rfl
    · obtain ⟨p, _, rfl⟩ := List.mem_map.mp hx
      rfl
  show (if sortOk (ps.map pD) = true then some (sortedD (ps.map pD)) else none) = _
  rw [if_pos ok]
  unfold sortedD
  rw [← List.map_mergeSort (f := pD) (r := PySem.W.dataLe false pD) fun a _ b _ => rfl]
theorem ord_perm (lens : List Int) : (ord lens).Perm (pairs lens) := List.mergeSort_perm _ _
theorem ord_sorted (lens : List Int) : (ord lens).Pairwise le2 := by
  have := List.pairwise_mergeSort (le := PySem.W.dataLe false pD) (fun a b c h1 h2 => by
    rw [le_eq, decide_eq_true_eq] at *
    exact le2_trans h1 h2) (fun a b => by
    rw [le_eq, le_eq]
    rcases le2_total a b with h | h <;> simp [h]) (pairs lens)
  exact this.imp fun h => by rw [le_eq, decide_eq_true_eq] at h; exact h
theorem mem_pairs {lens : List Int} {p : P2} (h : p ∈ pairs lens) : lens[p.2]? = some p.1 := by
  unfold pairs at h
  obtain ⟨i, hi, rfl⟩ := List.mem_map.mp h
  have := List.mem_range.mp hi
  rw [List.getD_eq_getElem?_getD, List.getElem?_eq_getElem this]; rfl
theorem ord_ok {lens : List Int} (h1 : ∀ n ∈ lens, 1 ≤ n) : ∀ p ∈ ord lens, lens[p.2]? = some p.1 ∧ 1 ≤ p.1 := fun p hp => by
  have := mem_pairs ((ord_perm lens).mem_iff.mp hp)
  exact ⟨this, h1 _ (List.mem_of_getElem? this)⟩
theorem ord_nd (lens : List Int) : ((ord lens).map (·.2)).Nodup := by
  have p : ((ord lens).map (·.2)).Perm ((pairs lens).map (·.2)) := (ord_perm lens).map _
  refine p.nodup_iff.mpr ?_
  unfold pairs
  rw [List.map_map]
  have : ((fun p : P2 => p.2) ∘ fun i => (lens.getD i 0, i)) = id := rfl
  rw [this, List.map_id]
  exact List.nodup_range
theorem enum_pairs (lens : List Int) : enumD (lens.map PyData.int) = (List.range lens.length).map fun i => PyData.tuple [.int (i : Nat), .int (lens.getD i 0)] := by
  unfold enumD
  rw [List.length_map]
  refine List.map_congr_left fun i hi => ?_
  have := List.mem_range.mp hi
  simp [List.getD_eq_getElem?_getD, this]
theorem shape_b1 {t : Sl} {d l : Int} {a : Nat} {f : List Int} {x : Sl} (ha : a < f.length) : Wp (b1_least_shape [t, .dat (.int d), .own (f.map PyData.int), .dat (.int l), .dat (.int (a : Nat)), x]) fun c e => c = .next ∧
    ∃ x, e = [t, .dat (.int (d - min d (l - 1))), .own ((f.set a (l - min d (l - 1))).map PyData.int), .dat (.int l), .dat (.int (a : Nat)), x] := by
  have hm : min2D [.int d, .int (l - 1)] = some (.int (min d (l - 1))) := min2_int
  unfold b1_least_shape
  repeat (first
      | (with_reducible (first
        | refine i_seq ?_ | refine i_asg ?_ | refine i_asgO ?_ | refine i_asgT ?_ | refine i_ret ?_ | refine i_retO ?_ | refine i_do ?_ | refine i_if ?_ | refine i_next ?_ | refine i_brk ?_ | refine i_cnt ?_ | refine i_retN ?_
        | refine i_c ?_ | refine i_un ?_ | refine i_op ?_ | refine i_b ?_ | refine i_nil ?_ | refine i_cons ?_ | refine i_tst ?_ | refine i_and ?_ | refine i_or ?_ | refine i_not ?_ | refine i_ofT ?_ | refine i_ifE ?_ | refine i_andV ?_ | refine i_orV ?_ | refine i_notV ?_
        | refine i_isi ?_ | refine i_tup ?_ | refine i_lst ?_ | refine i_bO ?_ | refine i_fz ?_ | refine i_od ?_ | refine i_chain ?_ | refine i_call ?_ | refine i_perm ?_ | refine i_for ?_ | refine i_comp ?_ | refine i_it ?_ | refine i_itO ?_ | refine i_yes ?_))
      | (((with_reducible apply i_var); case hv => rfl))
      | ((with_reducible apply i_ofO); case ho => first | (with_reducible first | exact addD_int | exact subD_int | exact eqX_int | exact neX_int | exact eqX_str | exact neX_str | exact ltD_int | exact leD_int | exact gtD_int | exact geD_int | exact negD_int | exact intD_int | exact absD_int | exact reprD_bool | exact reprD_none) | assumption)
      | (with_reducible refine ⟨_, (by assumption : rg1 _ = some _), ?_⟩) | (with_reducible refine ⟨_, (by assumption : rg2 _ = some _), ?_⟩) | (with_reducible refine ⟨_, rg1_int (by decide), ?_⟩) | (with_reducible refine ⟨_, rg2_int (by decide) (by decide), ?_⟩)
      | (with_reducible refine ⟨_, rfl, ?_⟩)
      | ((with_reducible apply ite_t); case h => first | (with_reducible rfl) | assumption)
      | ((with_reducible apply ite_f); case h => first | (with_reducible rfl) | assumption)
      | ((with_reducible apply And.intro); case left => first | rfl | decide | exact Nat.le_of_ble_eq_true rfl))
  unfold mSetIx
  rw [wp_bind]
  repeat (first
      | (with_reducible (first
        | refine i_seq ?_ | refine i_asg ?_ | refine i_asgO ?_ | refine i_asgT ?_ | refine i_ret ?_ | refine i_retO ?_ | refine i_do ?_ | refine i_if ?_ | refine i_next ?_ | refine i_brk ?_ | refine i_cnt ?_ | refine i_retN ?_
        | refine i_c ?_ | refine i_un ?_ | refine i_op ?_ | refine i_b ?_ | refine i_nil ?_ | refine i_cons ?_ | refine i_tst ?_ | refine i_and ?_ | refine i_or ?_ | refine i_not ?_ | refine i_ofT ?_ | refine i_ifE ?_ | refine i_andV ?_ | refine i_orV ?_ | refine i_notV ?_
        | refine i_isi ?_ | refine i_tup ?_ | refine i_lst ?_ | refine i_bO ?_ | refine i_fz ?_ | refine i_od ?_ | refine i_chain ?_ | refine i_call ?_ | refine i_perm ?_ | refine i_for ?_ | refine i_comp ?_ | refine i_it ?_ | refine i_itO ?_ | refine i_yes ?_))
      | (((with_reducible apply i_var); case hv => rfl))
      | ((with_reducible apply i_ofO); case ho => first | (with_reducible first | exact addD_int | exact subD_int | exact eqX_int | exact neX_int | exact eqX_str | exact neX_str | exact ltD_int | exact leD_int | exact gtD_int | exact geD_int | exact negD_int | exact intD_int | exact absD_int | exact reprD_bool | exact reprD_none) | assumption)
      | (with_reducible refine ⟨_, (by assumption : rg1 _ = some _), ?_⟩) | (with_reducible refine ⟨_, (by assumption : rg2 _ = some _), ?_⟩) | (with_reducible refine ⟨_, rg1_int (by decide), ?_⟩) | (with_reducible refine ⟨_, rg2_int (by decide) (by decide), ?_⟩)
      | (with_reducible refine ⟨_, rfl, ?_⟩)
      | ((with_reducible apply ite_t); case h => first | (with_reducible rfl) | assumption)
      | ((with_reducible apply ite_f); case h => first | (with_reducible rfl) | assumption)
      | ((with_reducible apply And.intro); case left => first | rfl | decide | exact Nat.le_of_ble_eq_true rfl))
  show Wp ((mVar 4 _).bind _) _
  rw [wp_bind]
  repeat (first
      | (with_reducible (first
        | refine i_seq ?_ | refine i_asg ?_ | refine i_asgO ?_ | refine i_asgT ?_ | refine i_ret ?_ | refine i_retO ?_ | refine i_do ?_ | refine i_if ?_ | refine i_next ?_ | refine i_brk ?_ | refine i_cnt ?_ | refine i_retN ?_
        | refine i_c ?_ | refine i_un ?_ | refine i_op ?_ | refine i_b ?_ | refine i_nil ?_ | refine i_cons ?_ | refine i_tst ?_ | refine i_and ?_ | refine i_or ?_ | refine i_not ?_ | refine i_ofT ?_ | refine i_ifE ?_ | refine i_andV ?_ | refine i_orV ?_ | refine i_notV ?_
        | refine i_isi ?_ | refine i_tup ?_ | refine i_lst ?_ | refine i_bO ?_ | refine i_fz ?_ | refine i_od ?_ | refine i_chain ?_ | refine i_call ?_ | refine i_perm ?_ | refine i_for ?_ | refine i_comp ?_ | refine i_it ?_ | refine i_itO ?_ | refine i_yes ?_))
      | (((with_reducible apply i_var); case hv => rfl))
      | ((with_reducible apply i_ofO); case ho => first | (with_reducible first | exact addD_int | exact subD_int | exact eqX_int | exact neX_int | exact eqX_str | exact neX_str | exact ltD_int | exact leD_int | exact gtD_int | exact geD_int | exact negD_int | exact intD_int | exact absD_int | exact reprD_bool | exact reprD_none) | assumption)
      | (with_reducible refine ⟨_, (by assumption : rg1 _ = some _), ?_⟩) | (with_reducible refine ⟨_, (by assumption : rg2 _ = some _), ?_⟩) | (with_reducible refine ⟨_, rg1_int (by decide), ?_⟩) | (with_reducible refine ⟨_, rg2_int (by decide) (by decide), ?_⟩)
      | (with_reducible refine ⟨_, rfl, ?_⟩)
      | ((with_reducible apply ite_t); case h => first | (with_reducible rfl) | assumption)
      | ((with_reducible apply ite_f); case h => first | (with_reducible rfl) | assumption)
      | ((with_reducible apply And.intro); case left => first | rfl | decide | exact Nat.le_of_ble_eq_true rfl))
  show Wp (match L2.ixN (f.map PyData.int).length (a : Int) with | some n => _ | none => _) _
  rw [List.length_map, ixN_nat ha]
  rw [wp_ok]
  repeat (first
      | (with_reducible (first
        | refine i_seq ?_ | refine i_asg ?_ | refine i_asgO ?_ | refine i_asgT ?_ | refine i_ret ?_ | refine i_retO ?_ | refine i_do ?_ | refine i_if ?_ | refine i_next ?_ | refine i_brk ?_ | refine i_cnt ?_ | refine i_retN ?_
        | refine i_c ?_ | refine i_un ?_ | refine i_op ?_ | refine i_b ?_ | refine i_nil ?_ | refine i_cons ?_ | refine i_tst ?_ | refine i_and ?_ | refine i_or ?_ | refine i_not ?_ | refine i_ofT ?_ | refine i_ifE ?_ | refine i_andV ?_ | refine i_orV ?_ | refine i_notV ?_
        | refine i_isi ?_ | refine i_tup ?_ | refine i_lst ?_ | refine i_bO ?_ | refine i_fz ?_ | refine i_od ?_ | refine i_chain ?_ | refine i_call ?_ | refine i_perm ?_ | refine i_for ?_ | refine i_comp ?_ | refine i_it ?_ | refine i_itO ?_ | refine i_yes ?_))
      | (((with_reducible apply i_var); case hv => rfl))
      | ((with_reducible apply i_ofO); case ho => first | (with_reducible first | exact addD_int | exact subD_int | exact eqX_int | exact neX_int | exact eqX_str | exact neX_str | exact ltD_int | exact leD_int | exact gtD_int | exact geD_int | exact negD_int | exact intD_int | exact absD_int | exact reprD_bool | exact reprD_none) | assumption)
      | (with_reducible refine ⟨_, (by assumption : rg1 _ = some _), ?_⟩) | (with_reducible refine ⟨_, (by assumption : rg2 _ = some _), ?_⟩) | (with_reducible refine ⟨_, rg1_int (by decide), ?_⟩) | (with_reducible refine ⟨_, rg2_int (by decide) (by decide), ?_⟩)
      | (with_reducible refine ⟨_, rfl, ?_⟩)
      | ((with_reducible apply ite_t); case h => first | (with_reducible rfl) | assumption)
      | ((with_reducible apply ite_f); case h => first | (with_reducible rfl) | assumption)
      | ((with_reducible apply And.intro); case left => first | rfl | decide | exact Nat.le_of_ble_eq_true rfl))
  rw [map_set_int]
  exact ⟨_, rfl⟩
theorem greedy_length : ∀ (L : List P2) (d : Int) (f : List Int), (greedy L d f).length = f.length
  | [], _, _ => rfl
  | (l, a) :: r, d, f => by unfold greedy; rw [greedy_length, List.length_set]
theorem shape_spec {lens : List Int} {d : Int} (h1 : ∀ n ∈ lens, 1 ≤ n) (hl : lens.length ≤ 10) (hd : 0 ≤ d) : Wp (g_least_shape [.dat (.tuple (lens.map PyData.int)), .dat (.int d)]) fun r _ => r = .dat (.tuple ((greedy (ord lens) d lens).map PyData.int)) := by
  refine (wp_gOf (by rfl)).mpr ?_
  have hlist : listF [.tuple (lens.map PyData.int)] = some (lens.map PyData.int) := rfl
  have hen : en1 [.tuple (lens.map PyData.int)] = some ((List.range lens.length).map fun i => PyData.tuple [.int (i : Nat), .int (lens.getD i 0)]) := by
    show some (enumD _) = _
    rw [enum_pairs]
  have hsort : sortF [.list ((pairs lens).map pD)] = some ((ord lens).map pD) := sort_pairs (by unfold pairs; simp; omega)
  unfold m_least_shape
  repeat (first
      | (with_reducible (first
        | refine i_seq ?_ | refine i_asg ?_ | refine i_asgO ?_ | refine i_asgT ?_ | refine i_ret ?_ | refine i_retO ?_ | refine i_do ?_ | refine i_if ?_ | refine i_next ?_ | refine i_brk ?_ | refine i_cnt ?_ | refine i_retN ?_
        | refine i_c ?_ | refine i_un ?_ | refine i_op ?_ | refine i_b ?_ | refine i_nil ?_ | refine i_cons ?_ | refine i_tst ?_ | refine i_and ?_ | refine i_or ?_ | refine i_not ?_ | refine i_ofT ?_ | refine i_ifE ?_ | refine i_andV ?_ | refine i_orV ?_ | refine i_notV ?_
        | refine i_isi ?_ | refine i_tup ?_ | refine i_lst ?_ | refine i_bO ?_ | refine i_fz ?_ | refine i_od ?_ | refine i_chain ?_ | refine i_call ?_ | refine i_perm ?_ | refine i_for ?_ | refine i_comp ?_ | refine i_it ?_ | refine i_itO ?_ | refine i_yes ?_))
      | (((with_reducible apply i_var); case hv => rfl))
      | ((with_reducible apply i_ofO); case ho => first | (with_reducible first | exact addD_int | exact subD_int | exact eqX_int | exact neX_int | exact eqX_str | exact neX_str | exact ltD_int | exact leD_int | exact gtD_int | exact geD_int | exact negD_int | exact intD_int | exact absD_int | exact reprD_bool | exact reprD_none) | assumption)
      | (with_reducible refine ⟨_, (by assumption : rg1 _ = some _), ?_⟩) | (with_reducible refine ⟨_, (by assumption : rg2 _ = some _), ?_⟩) | (with_reducible refine ⟨_, rg1_int (by decide), ?_⟩) | (with_reducible refine ⟨_, rg2_int (by decide) (by decide), ?_⟩)
      | (with_reducible refine ⟨_, rfl, ?_⟩)
      | ((with_reducible apply ite_t); case h => first | (with_reducible rfl) | assumption)
      | ((with_reducible apply ite_f); case h => first | (with_reducible rfl) | assumption)
      | ((with_reducible apply And.intro); case left => first | rfl | decide | exact Nat.le_of_ble_eq_true rfl))
  rw [enum_pairs]
  refine ⟨by simp; omega, wp_compA (fun i : Nat => PyData.tuple [.int (i : Nat), .int (lens.getD i 0)]) _ (fun i => pD (lens.getD i 0, i)) (fun i hi => ⟨_, rfl, ?_⟩) ?_⟩
  · repeat (first
        | (with_reducible (first
          | refine i_seq ?_ | refine i_asg ?_ | refine i_asgO ?_ | refine i_asgT ?_ | refine i_ret ?_ | refine i_retO ?_ | refine i_do ?_ | refine i_if ?_ | refine i_next ?_ | refine i_brk ?_ | refine i_cnt ?_ | refine i_retN ?_
          | refine i_c ?_ | refine i_un ?_ | refine i_op ?_ | refine i_b ?_ | refine i_nil ?_ | refine i_cons ?_ | refine i_tst ?_ | refine i_and ?_ | refine i_or ?_ | refine i_not ?_ | refine i_ofT ?_ | refine i_ifE ?_ | refine i_andV ?_ | refine i_orV ?_ | refine i_notV ?_
          | refine i_isi ?_ | refine i_tup ?_ | refine i_lst ?_ | refine i_bO ?_ | refine i_fz ?_ | refine i_od ?_ | refine i_chain ?_ | refine i_call ?_ | refine i_perm ?_ | refine i_for ?_ | refine i_comp ?_ | refine i_it ?_ | refine i_itO ?_ | refine i_yes ?_))
        | (((with_reducible apply i_var); case hv => rfl))
        | ((with_reducible apply i_ofO); case ho => first | (with_reducible first | exact addD_int | exact subD_int | exact eqX_int | exact neX_int | exact eqX_str | exact neX_str | exact ltD_int | exact leD_int | exact gtD_int | exact geD_int | exact negD_int | exact intD_int | exact absD_int | exact reprD_bool | exact reprD_none) | assumption)
        | (with_reducible refine ⟨_, (by assumption : rg1 _ = some _), ?_⟩) | (with_reducible refine ⟨_, (by assumption : rg2 _ = some _), ?_⟩) | (with_reducible refine ⟨_, rg1_int (by decide), ?_⟩) | (with_reducible refine ⟨_, rg2_int (by decide) (by decide), ?_⟩)
        | (with_reducible refine ⟨_, rfl, ?_⟩)
        | ((with_reducible apply ite_t); case h => first | (with_reducible rfl) | assumption)
        | ((with_reducible apply ite_f); case h => first | (with_reducible rfl) | assumption)
        | ((with_reducible apply And.intro); case left => first | rfl | decide | exact Nat.le_of_ble_eq_true rfl))
    rfl
  have e1 : (List.range lens.length).map (fun i => pD (lens.getD i 0, i)) = (pairs lens).map pD := by unfold pairs; rw [List.map_map]; rfl
  rw [e1]
  repeat (first
      | (with_reducible (first
        | refine i_seq ?_ | refine i_asg ?_ | refine i_asgO ?_ | refine i_asgT ?_ | refine i_ret ?_ | refine i_retO ?_ | refine i_do ?_ | refine i_if ?_ | refine i_next ?_ | refine i_brk ?_ | refine i_cnt ?_ | refine i_retN ?_
        | refine i_c ?_ | refine i_un ?_ | refine i_op ?_ | refine i_b ?_ | refine i_nil ?_ | refine i_cons ?_ | refine i_tst ?_ | refine i_and ?_ | refine i_or ?_ | refine i_not ?_ | refine i_ofT ?_ | refine i_ifE ?_ | refine i_andV ?_ | refine i_orV ?_ | refine i_notV ?_
        | refine i_isi ?_ | refine i_tup ?_ | refine i_lst ?_ | refine i_bO ?_ | refine i_fz ?_ | refine i_od ?_ | refine i_chain ?_ | refine i_call ?_ | refine i_perm ?_ | refine i_for ?_ | refine i_comp ?_ | refine i_it ?_ | refine i_itO ?_ | refine i_yes ?_))
      | (((with_reducible apply i_var); case hv => rfl))
      | ((with_reducible apply i_ofO); case ho => first | (with_reducible first | exact addD_int | exact subD_int | exact eqX_int | exact neX_int | exact eqX_str | exact neX_str | exact ltD_int | exact leD_int | exact gtD_int | exact geD_int | exact negD_int | exact intD_int | exact absD_int | exact reprD_bool | exact reprD_none) | assumption)
      | (with_reducible refine ⟨_, (by assumption : rg1 _ = some _), ?_⟩) | (with_reducible refine ⟨_, (by assumption : rg2 _ = some _), ?_⟩) | (with_reducible refine ⟨_, rg1_int (by decide), ?_⟩) | (with_reducible refine ⟨_, rg2_int (by decide) (by decide), ?_⟩)
      | (with_reducible refine ⟨_, rfl, ?_⟩)
      | ((with_reducible apply ite_t); case h => first | (with_reducible rfl) | assumption)
      | ((with_reducible apply ite_f); case h => first | (with_reducible rfl) | assumption)
      | ((with_reducible apply And.intro); case left => first | rfl | decide | exact Nat.le_of_ble_eq_true rfl))
  refine ⟨_, hsort, ?_⟩
  repeat (first
      | (with_reducible (first
        | refine i_seq ?_ | refine i_asg ?_ | refine i_asgO ?_ | refine i_asgT ?_ | refine i_ret ?_ | refine i_retO ?_ | refine i_do ?_ | refine i_if ?_ | refine i_next ?_ | refine i_brk ?_ | refine i_cnt ?_ | refine i_retN ?_
        | refine i_c ?_ | refine i_un ?_ | refine i_op ?_ | refine i_b ?_ | refine i_nil ?_ | refine i_cons ?_ | refine i_tst ?_ | refine i_and ?_ | refine i_or ?_ | refine i_not ?_ | refine i_ofT ?_ | refine i_ifE ?_ | refine i_andV ?_ | refine i_orV ?_ | refine i_notV ?_
        | refine i_isi ?_ | refine i_tup ?_ | refine i_lst ?_ | refine i_bO ?_ | refine i_fz ?_ | refine i_od ?_ | refine i_chain ?_ | refine i_call ?_ | refine i_perm ?_ | refine i_for ?_ | refine i_comp ?_ | refine i_it ?_ | refine i_itO ?_ | refine i_yes ?_))
      | (((with_reducible apply i_var); case hv => rfl))
      | ((with_reducible apply i_ofO); case ho => first | (with_reducible first | exact addD_int | exact subD_int | exact eqX_int | exact neX_int | exact eqX_str | exact neX_str | exact ltD_int | exact leD_int | exact gtD_int | exact geD_int | exact negD_int | exact intD_int | exact absD_int | exact reprD_bool | exact reprD_none) | assumption)
      | (with_reducible refine ⟨_, (by assumption : rg1 _ = some _), ?_⟩) | (with_reducible refine ⟨_, (by assumption : rg2 _ = some _), ?_⟩) | (with_reducible refine ⟨_, rg1_int (by decide), ?_⟩) | (with_reducible refine ⟨_, rg2_int (by decide) (by decide), ?_⟩)
      | (with_reducible refine ⟨_, rfl, ?_⟩)
      | ((with_reducible apply ite_t); case h => first | (with_reducible rfl) | assumption)
      | ((with_reducible apply ite_f); case h => first | (with_reducible rfl) | assumption)
      | ((with_reducible apply And.intro); case left => first | rfl | decide | exact Nat.le_of_ble_eq_true rfl))
  refine wp_forN (fun k e => ∃ dk fk x3 x4 x5, e = [.dat (.tuple (lens.map PyData.int)), .dat (.int dk), .own (fk.map PyData.int), x3, x4, x5] ∧ fk.length = lens.length ∧ greedy ((ord lens).drop k) dk fk = greedy (ord lens) d lens) ⟨d, lens, _, _, _, rfl, rfl, rfl⟩ (fun k x e hx hi => ?_) fun e hi => ?_
  · obtain ⟨dk, fk, x3, x4, x5, rfl, hfl, hg⟩ := hi
    rw [List.getElem?_map] at hx
    obtain ⟨⟨l, a⟩, hp, rfl⟩ := Option.map_eq_some_iff.mp hx
    have ha : a < fk.length := by
      have := (List.getElem?_eq_some_iff.mp (ord_ok h1 _ (List.mem_of_getElem? hp)).1).1
      omega
    refine ⟨_, rfl, (shape_b1 ha).mono fun c e h => ?_⟩
    obtain ⟨rfl, y, rfl⟩ := h
    refine ⟨rfl, _, _, _, _, _, rfl, by rw [List.length_set]; exact hfl, ?_⟩
    have hk : k < (ord lens).length := (List.getElem?_eq_some_iff.mp hp).1
    rw [← hg, List.drop_eq_getElem_cons hk]
    have : (ord lens)[k] = (l, a) := by rw [List.getElem?_eq_getElem hk] at hp; exact Option.some.inj hp
    rw [this]
    rfl
  · obtain ⟨dk, fk, x3, x4, x5, rfl, hfl, hg⟩ := hi
    rw [List.length_map, List.drop_length] at hg
    have hg' : fk = greedy (ord lens) d lens := hg
    subst hg'
    have ht : tupleD [.list ((greedy (ord lens) d lens).map PyData.int)] = some (.tuple ((greedy (ord lens) d lens).map PyData.int)) := rfl
    exact i_ret (i_b (i_cons (i_varO (ds := (greedy (ord lens) d lens).map PyData.int) (by rfl) (i_nil (i_ofO (d := .tuple ((greedy (ord lens) d lens).map PyData.int)) rfl rfl)))))
theorem find_min {lens f : List Int} {m : P2} (hm : m ∈ pairs lens) (hf : 1 < f.getD m.2 0) (hmin : ∀ q ∈ pairs lens, 1 < f.getD q.2 0 → le2 m q) : (ord lens).find? (fun p : P2 => decide (1 < f.getD p.2 0)) = some m := by
  have hm' : m ∈ ord lens := (ord_perm lens).mem_iff.mpr hm
  cases h : (ord lens).find? (fun p : P2 => decide (1 < f.getD p.2 0)) with
  | none =>
    rw [List.find?_eq_none] at h
    have := h m hm'
    simp only [decide_eq_true_eq] at this
    exact absurd hf this
  | some p =>
    obtain ⟨h1, as, bs, h2, h3⟩ := List.find?_eq_some_iff_append.mp h
    have hs := ord_sorted lens
    rw [h2] at hs hm'
    have hp : p ∈ pairs lens := (ord_perm lens).mem_iff.mp (by rw [h2]; simp)
    simp only [decide_eq_true_eq] at h1
    rcases List.mem_append.mp hm' with z | z
    · have := h3 m z
      simp only [Bool.not_eq_true', decide_eq_false_iff_not] at this
      exact absurd hf this
    · rcases List.mem_cons.mp z with z | z
      · rw [z]
      · have := (List.pairwise_cons.mp (List.pairwise_append.mp hs).2.1).1 m z
        rw [le2_antisymm (hmin p hp h1) this]
theorem min_pairs {q : P2} {qs : List P2} : ∃ m, bestD PySem.W.minD [.list ((q :: qs).map pD)] = some (pD m) ∧ m ∈ q :: qs ∧ ∀ r ∈ q :: qs, le2 m r := by
  have ok : ordOk ((q :: qs).map pD) = true := by
    unfold ordOk alikeB
    have d1 : ∀ ps : List P2, PyData.canLayAll0 (ps.map pD) = true ∧ PyData.depthAll (ps.map pD) ≤ 1 := by
      intro ps
      induction ps with
      | nil => exact ⟨rfl, Nat.zero_le _⟩
      | cons p ps ih => simp [PyData.canLayAll0, PyData.depthAll, pD, PyData.canLay0, PyData.depth, ih.1]; have := ih.2; omega
    simp only [Bool.and_eq_true, List.all_eq_true, decide_eq_true_eq]
    refine ⟨⟨⟨fun x hx y hy => ?_, fun x hx => ?_⟩, (d1 _).1⟩, by have := (d1 (q :: qs)).2; omega⟩
    · obtain ⟨p, _, rfl⟩ := List.mem_map.mp hx
      obtain ⟨r, _, rfl⟩ := List.mem_map.mp hy
      exact alike_pD p r
    · obtain ⟨p, _, rfl⟩ := List.mem_map.mp hx
      rfl
  have fold : ∀ (qs : List P2) (a : P2), ∃ m, (qs.map pD).foldl (fun a y => if PySem.W.dataLt y a then y else a) (pD a) = pD m ∧ (m = a ∨ m ∈ qs) ∧ le2 m a ∧ ∀ r ∈ qs, le2 m r := by
    intro qs
    induction qs with
    | nil => exact fun a => ⟨a, rfl, .inl rfl, by unfold le2; omega, by simp⟩
    | cons p ps ih =>
      intro a
      rw [List.map_cons, List.foldl_cons]
      have hlt : PySem.W.dataLt (pD p) (pD a) = decide (p.1 < a.1 ∨ (p.1 = a.1 ∧ (p.2 : Int) < (a.2 : Int))) := PySem.W.dataLt_ii _ _ _ _
      by_cases hc : p.1 < a.1 ∨ (p.1 = a.1 ∧ (p.2 : Int) < (a.2 : Int))
      · rw [hlt, decide_eq_true hc, if_pos rfl]
        obtain ⟨m, e, h1, h2, h3⟩ := ih p
        have hpa : le2 p a := by unfold le2; omega
        refine ⟨m, e, ?_, le2_trans h2 hpa, fun r hr => ?_⟩
        · rcases h1 with z | z
          · exact .inr (by rw [z]; simp)
          · exact .inr (List.mem_cons_of_mem _ z)
        · rcases List.mem_cons.mp hr with z | z
          · rw [z]; exact h2
          · exact h3 r z
      · rw [hlt, decide_eq_false hc, if_neg (by decide)]
        obtain ⟨m, e, h1, h2, h3⟩ := ih a
        have hap : le2 a p := by unfold le2; omega
        refine ⟨m, e, ?_, h2, fun r hr => ?_⟩
        · rcases h1 with z | z
          · exact .inl z
          · exact .inr (List.mem_cons_of_mem _ z)
        · rcases List.mem_cons.mp hr with z | z
          · rw [z]; exact le2_trans h2 hap
          · exact h3 r z
  obtain ⟨m, e, h1, h2, h3⟩ := fold qs q
  refine ⟨m, ?_, by rcases h1 with z | z; exact (by rw [z]; simp); exact List.mem_cons_of_mem _ z, fun r hr => by rcases List.mem_cons.mp hr with z | z; exact (by rw [z]; exact h2); exact h3 r z⟩
  show (if ordOk ((q :: qs).map pD) = true then some (PySem.W.minD (pD q) (qs.map pD)) else none) = _
  rw [if_pos ok]
  unfold PySem.W.minD
  rw [e]
def cand (f : List Int) : List Nat := (List.range f.length).filter fun a => decide (1 < f.getD a 0)
theorem least_b1 {lens f : List Int} {t x4 x5 : Sl} {d : Sl} (hl : lens.length ≤ 10) (hf : f.length = lens.length) : Wp (b1__law_least [.dat (.tuple (lens.map PyData.int)), d, .own (f.map PyData.int), t, x4, x5, .un]) fun c e => c = .next ∧
    ∃ x4 x5, e = [.dat (.tuple (lens.map PyData.int)), d, .own ((stepF (ord lens) f).map PyData.int), t, x4, x5, .un] := by
  have hr : rg1 [.int ((f.map PyData.int).length : Nat)] = some (rng 0 f.length) := by
    rw [List.length_map]
    exact rg1_int (inR_of (by omega) (by omega))
  unfold b1__law_least
  refine i_seq (i_asg (i_fz (i_comp (i_itO (i_cons (i_ownLen (by rfl) (i_nil ⟨_, hr, by rw [rng_len]; omega, ?_⟩)))))))
  refine wp_compM (fun a : Nat => PyData.int (0 + (a : Int))) (List.range f.length) (fun a => decide (1 < f.getD a 0)) (fun a => .int (a : Nat)) (fun a ha => ⟨_, rfl, ?_⟩) ?_
  · have hal : a < f.length := List.mem_range.mp ha
    have hx : f[a]? = some (f.getD a 0) := by rw [List.getD_eq_getElem?_getD, List.getElem?_eq_getElem hal]; rfl
    rw [Int.zero_add]
    refine i_tst (i_op (i_ownIx (f := f) (a := a) (x := f.getD a 0) (by rfl) (i_var (by rfl) ⟨rfl, rfl⟩) hx (i_c (i_ofO gtD_int ⟨_, rfl, rfl, ?_⟩))))
    split
    · exact i_var (by rfl) ⟨rfl, rfl⟩
    · rfl
  · obtain ⟨y5, hy⟩ : ∃ y5, restoreL [5] [.dat (.tuple (lens.map PyData.int)), d, .own (f.map PyData.int), t, x4, x5, .un] (forgetL [5] [.dat (.tuple (lens.map PyData.int)), d, .own (f.map PyData.int), t, x4, x5, .un]) = [.dat (.tuple (lens.map PyData.int)), d, .own (f.map PyData.int), t, x4, y5, .un] := by cases x5 <;> exact ⟨_, rfl⟩
    rw [hy]
    refine ⟨_, rfl, ?_⟩
    have hne : neX (.list ((cand f).map fun a : Nat => PyData.int (a : Nat))) (.list []) = some (.bool (!((cand f).map fun a : Nat => PyData.int (a : Nat)).isEmpty)) := by
      have hlc : (cand f).length ≤ 10 := by
        unfold cand
        refine Nat.le_trans (List.length_filter_le _ _) ?_
        rw [List.length_range]; omega
      refine neX_list_nil (w := 10 * 302) (k := 1) (tame_list (w := 301) (k := 0) (n := 10) (fun x hx => ?_) (by rw [List.length_map]; exact hlc)) (by decide)
      obtain ⟨a, ha, rfl⟩ := List.mem_map.mp hx
      have : a < f.length := List.mem_range.mp (List.mem_filter.mp ha).1
      exact tame_int (by omega)
    show Wp (mIf _ _ _ _) _
    refine i_if (i_tst (i_op (i_var (by rfl) (i_fz (i_lst (i_nil ⟨by decide, _, rfl, i_ofO hne ⟨_, rfl, ?_⟩⟩))))))
    cases hc : cand f with
    | nil =>
      refine ite_f rfl ?_
      refine i_next ⟨rfl, .dat (.list ((cand f).map fun a : Nat => PyData.int (a : Nat))), y5, ?_⟩
      have hs : stepF (ord lens) f = f := by
        unfold stepF
        have : (ord lens).find? (fun p : P2 => decide (1 < f.getD p.2 0)) = none := by
          rw [List.find?_eq_none]
          intro p hp
          have hp2 := (List.getElem?_eq_some_iff.mp (mem_pairs ((ord_perm lens).mem_iff.mp hp))).1
          simp only [decide_eq_true_eq]
          intro z
          have : p.2 ∈ cand f := List.mem_filter.mpr ⟨List.mem_range.mpr (by omega), by simpa using z⟩
          rw [hc] at this
          cases this
        rw [this]
      rw [hs]
      rfl
    | cons a as =>
      have hmem : ∀ b ∈ a :: as, b < f.length ∧ 1 < f.getD b 0 := fun b hb => by
        rw [← hc] at hb
        have := List.mem_filter.mp hb
        exact ⟨List.mem_range.mp this.1, by simpa using this.2⟩
      have hget : ∀ b : Nat, b < lens.length → idxD (.tuple (lens.map PyData.int)) (.int (b : Int)) = some (.int (lens.getD b 0)) := fun b hb => Lp.atI_nat (by
        rw [List.getElem?_map, List.getD_eq_getElem?_getD, List.getElem?_eq_getElem hb]; rfl)
      obtain ⟨m, hm1, hm2, hm3⟩ := min_pairs (q := (lens.getD a 0, a)) (qs := as.map fun b => (lens.getD b 0, b))
      have hmp : ∃ b ∈ a :: as, m = (lens.getD b 0, b) := by
        rcases List.mem_cons.mp hm2 with z | z
        · exact ⟨a, by simp, z⟩
        · obtain ⟨b, hb, e⟩ := List.mem_map.mp z
          exact ⟨b, List.mem_cons_of_mem _ hb, e.symm⟩
      obtain ⟨b, hb, rfl⟩ := hmp
      obtain ⟨hb1, hb2⟩ := hmem b hb
      have hfb : f[b]? = some (f.getD b 0) := by rw [List.getD_eq_getElem?_getD, List.getElem?_eq_getElem hb1]; rfl
      have hstep : stepF (ord lens) f = f.set b (f.getD b 0 - 1) := by
        unfold stepF
        rw [find_min (m := (lens.getD b 0, b)) (List.mem_map.mpr ⟨b, List.mem_range.mpr (by omega), rfl⟩) hb2 fun q hq hq2 => ?_]
        obtain ⟨c, hcr, rfl⟩ := List.mem_map.mp hq
        have hcm : c ∈ a :: as := by
          rw [← hc]
          exact List.mem_filter.mpr ⟨List.mem_range.mpr (by have := List.mem_range.mp hcr; omega), by simpa using hq2⟩
        refine hm3 _ ?_
        rcases List.mem_cons.mp hcm with z | z
        · rw [z]; simp
        · exact List.mem_cons_of_mem _ (List.mem_map.mpr ⟨c, z, rfl⟩)
      rw [hstep]
      have hl6 : ((a :: as).map fun a : Nat => PyData.int (a : Nat)).length ≤ 16777216 := by
        have : (cand f).length ≤ f.length := by
          unfold cand
          refine Nat.le_trans (List.length_filter_le _ _) ?_
          rw [List.length_range]; exact Nat.le_refl _
        rw [hc] at this
        rw [List.length_map]; omega
      refine ite_t rfl (i_seq (i_asg (i_op (i_b (i_cons (i_fz (i_comp (i_it (i_var (d := .list ((a :: as).map fun a : Nat => PyData.int (a : Nat))) (by rw [← hc]; rfl) ⟨_, rfl, hl6, ?_⟩)))))))))
      refine wp_compA (fun a : Nat => PyData.int (a : Int)) (a :: as) (fun b => pD (lens.getD b 0, b)) (fun c hcm => ⟨_, rfl, ?_⟩) ?_
      · obtain ⟨hc1, hc2⟩ := hmem c hcm
        exact i_tup (i_cons (i_op (i_var (by rfl) (i_var (by rfl) (i_ofO (hget c (by omega)) (i_cons (i_var (by rfl) (i_nil ⟨Nat.le_of_ble_eq_true rfl, rfl, rfl⟩))))))))
      · have e2 : (a :: as).map (fun b => pD (lens.getD b 0, b)) = (((lens.getD a 0, a) :: as.map fun b => (lens.getD b 0, b)) : List P2).map pD := by simp
        rw [e2]
        refine ⟨_, rfl, i_nil (i_ofO hm1 (i_c (i_ofO (d := .int (b : Nat)) rfl ?_)))⟩
        show Wp (mSetIx _ _ _ _) _
        refine i_setIx (f := f) (a := b) (x := f.getD b 0 - 1) (by rfl) (i_op (i_ownIx (f := f) (a := b) (by rfl) (i_var (by rfl) ⟨rfl, rfl⟩) hfb (i_c (i_ofO subD_int ⟨rfl, rfl⟩)))) (i_var (by rfl) ⟨rfl, rfl⟩) hb1 ⟨rfl, _, _, rfl⟩
theorem stepF_length (L : List P2) (f : List Int) : (stepF L f).length = f.length := by
  unfold stepF
  split
  · rfl
  · rw [List.length_set]
theorem steps_length (L : List P2) (f : List Int) : ∀ n, (steps L f n).length = f.length
  | 0 => rfl
  | n + 1 => by unfold steps; rw [stepF_length, steps_length L f n]
theorem least_spec {lens : List Int} {d : Int} (h1 : ∀ n ∈ lens, 1 ≤ n) (hl : lens.length ≤ 10) (hd : 0 ≤ d) (hd2 : d ≤ 100000) : Wp (g__law_least [.dat (.tuple (lens.map PyData.int)), .dat (.int d)]) fun r _ => r = .dat (.tuple ((greedy (ord lens) d lens).map PyData.int)) := by
  refine (wp_gOf (by rfl)).mpr ?_
  have hr : rg1 [.int d] = some (rng 0 d.toNat) := rg1_int (inR_of (by omega) (by omega))
  unfold m__law_least
  repeat (first
      | (with_reducible (first
        | refine i_seq ?_ | refine i_asg ?_ | refine i_asgO ?_ | refine i_asgT ?_ | refine i_ret ?_ | refine i_retO ?_ | refine i_do ?_ | refine i_if ?_ | refine i_next ?_ | refine i_brk ?_ | refine i_cnt ?_ | refine i_retN ?_
        | refine i_c ?_ | refine i_un ?_ | refine i_op ?_ | refine i_b ?_ | refine i_nil ?_ | refine i_cons ?_ | refine i_tst ?_ | refine i_and ?_ | refine i_or ?_ | refine i_not ?_ | refine i_ofT ?_ | refine i_ifE ?_ | refine i_andV ?_ | refine i_orV ?_ | refine i_notV ?_
        | refine i_isi ?_ | refine i_tup ?_ | refine i_lst ?_ | refine i_bO ?_ | refine i_fz ?_ | refine i_od ?_ | refine i_chain ?_ | refine i_call ?_ | refine i_perm ?_ | refine i_for ?_ | refine i_comp ?_ | refine i_it ?_ | refine i_itO ?_ | refine i_yes ?_))
      | (((with_reducible apply i_var); case hv => rfl))
      | ((with_reducible apply i_ofO); case ho => first | (with_reducible first | exact addD_int | exact subD_int | exact eqX_int | exact neX_int | exact eqX_str | exact neX_str | exact ltD_int | exact leD_int | exact gtD_int | exact geD_int | exact negD_int | exact intD_int | exact absD_int | exact reprD_bool | exact reprD_none) | assumption)
      | (with_reducible refine ⟨_, (by assumption : rg1 _ = some _), ?_⟩) | (with_reducible refine ⟨_, (by assumption : rg2 _ = some _), ?_⟩) | (with_reducible refine ⟨_, rg1_int (by decide), ?_⟩) | (with_reducible refine ⟨_, rg2_int (by decide) (by decide), ?_⟩)
      | (with_reducible refine ⟨_, rfl, ?_⟩)
      | ((with_reducible apply ite_t); case h => first | (with_reducible rfl) | assumption)
      | ((with_reducible apply ite_f); case h => first | (with_reducible rfl) | assumption)
      | ((with_reducible apply And.intro); case left => first | rfl | decide | exact Nat.le_of_ble_eq_true rfl))
  refine wp_forN (fun k e => ∃ t x4 x5, e = [.dat (.tuple (lens.map PyData.int)), .dat (.int d), .own ((steps (ord lens) lens k).map PyData.int), t, x4, x5, .un]) ⟨_, _, _, rfl⟩ (fun k x e hx hi => ?_) fun e hi => ?_
  · obtain ⟨t, x4, x5, rfl⟩ := hi
    refine ⟨_, rfl, (least_b1 hl (steps_length _ _ _)).mono fun c e h => ?_⟩
    obtain ⟨rfl, x4, x5, rfl⟩ := h
    exact ⟨rfl, _, _, _, rfl⟩
  · obtain ⟨t, x4, x5, rfl⟩ := hi
    rw [rng_len, steps_greedy _ _ (ord_ok h1) (ord_nd lens), Int.toNat_of_nonneg hd]
    exact i_ret (i_b (i_cons (i_varO (ds := (greedy (ord lens) d lens).map PyData.int) (by rfl) (i_nil (i_ofO (d := .tuple ((greedy (ord lens) d lens).map PyData.int)) rfl rfl)))))
def BoxOf (lens f : List Int) : Prop := f.length = lens.length ∧ ∀ i, i < lens.length → 1 ≤ f.getD i 0 ∧ f.getD i 0 ≤ lens.getD i 0
theorem box_greedy {lens : List Int} : ∀ (L : List P2) (d : Int) (f : List Int), 0 ≤ d → (∀ p ∈ L, lens[p.2]? = some p.1 ∧ 1 ≤ p.1) → BoxOf lens f → BoxOf lens (greedy L d f)
  | [], _, _, _, _, h => h
  | (l, a) :: r, d, f, hd, hL, h => by
    obtain ⟨h1, h2⟩ := hL (l, a) (List.mem_cons_self ..)
    unfold greedy
    refine box_greedy r _ _ (by omega) (fun p hp => hL p (List.mem_cons_of_mem _ hp)) ⟨by rw [List.length_set]; exact h.1, fun i hi => ?_⟩
    by_cases z : a = i
    · subst z
      rw [getD_set_self (by rw [h.1]; exact hi)]
      have : lens.getD a 0 = l := by rw [List.getD_eq_getElem?_getD, h1]; rfl
      rw [this]; omega
    · rw [getD_set_ne z]; exact h.2 i hi
theorem box_self {lens : List Int} (h1 : ∀ n ∈ lens, 1 ≤ n) : BoxOf lens lens := ⟨rfl, fun i hi => ⟨h1 _ (by rw [List.getD_eq_getElem?_getD, List.getElem?_eq_getElem hi]; exact List.getElem_mem hi), Int.le_refl _⟩⟩
theorem box_mem {lens f : List Int} {B : Int} (h : BoxOf lens f) (hB : ∀ n ∈ lens, n ≤ B) : ∀ n ∈ f, 1 ≤ n ∧ n ≤ B := fun n hn => by
  obtain ⟨i, hi, e⟩ := List.getElem_of_mem hn
  have hi' : i < lens.length := by rw [← h.1]; exact hi
  have := h.2 i hi'
  have e1 : f.getD i 0 = n := by rw [List.getD_eq_getElem?_getD, List.getElem?_eq_getElem hi]; exact e
  have e2 : lens.getD i 0 ≤ B := hB _ (by rw [List.getD_eq_getElem?_getD, List.getElem?_eq_getElem hi']; exact List.getElem_mem hi')
  omega
theorem sum_set : ∀ (f : List Int) (a : Nat) (x : Int), a < f.length → (f.set a x).sum = f.sum - f.getD a 0 + x
  | y :: f, 0, x, _ => by simp; omega
  | y :: f, a + 1, x, h => by
    have ih := sum_set f a x (by simpa using h)
    have e : (y :: f).getD (a + 1) 0 = f.getD a 0 := rfl
    rw [List.set_cons_succ, List.sum_cons, List.sum_cons, ih, e]; omega
def capL (L : List P2) : Int := (L.map fun p => p.1 - 1).sum
theorem capL_nonneg : ∀ {L : List P2}, (∀ p ∈ L, 1 ≤ p.1) → 0 ≤ capL L
  | [], _ => by simp [capL]
  | p :: L, h => by
    have := capL_nonneg (L := L) fun q hq => h q (List.mem_cons_of_mem _ hq)
    have h2 := h p (List.mem_cons_self ..)
    unfold capL at *
    rw [List.map_cons, List.sum_cons]; omega
theorem sum_greedy : ∀ (L : List P2) (d : Int) (f : List Int), 0 ≤ d → (∀ p ∈ L, f[p.2]? = some p.1 ∧ 1 ≤ p.1) → (L.map (·.2)).Nodup → (greedy L d f).sum = f.sum - min d (capL L)
  | [], d, f, hd, _, _ => by unfold greedy capL; simp; omega
  | (l, a) :: r, d, f, hd, hL, nd => by
    obtain ⟨h1, h2⟩ := hL (l, a) (List.mem_cons_self ..)
    have hal : a < f.length := (List.getElem?_eq_some_iff.mp h1).1
    have hnr : ∀ p ∈ r, p.2 ≠ a := fun p hp e => (List.nodup_cons.mp nd).1 (List.mem_map.mpr ⟨p, hp, e⟩)
    unfold greedy
    rw [sum_greedy r _ _ (by omega) (fun p hp => by
      rw [List.getElem?_set_ne (Ne.symm (hnr p hp))]
      exact hL p (List.mem_cons_of_mem _ hp)) (List.nodup_cons.mp nd).2, sum_set _ _ _ hal]
    have e : f.getD a 0 = l := by rw [List.getD_eq_getElem?_getD, h1]; rfl
    have hc := capL_nonneg (L := r) fun q hq => (hL q (List.mem_cons_of_mem _ hq)).2
    have e2 : capL ((l, a) :: r) = l - 1 + capL r := by unfold capL; rw [List.map_cons, List.sum_cons]
    simp only at h2
    rw [e, e2]; omega
theorem sum_perm {xs ys : List Int} (h : xs.Perm ys) : xs.sum = ys.sum := by
  induction h with
  | nil => rfl
  | cons x _ ih => rw [List.sum_cons, List.sum_cons, ih]
  | swap x y l => rw [List.sum_cons, List.sum_cons, List.sum_cons, List.sum_cons]; omega
  | trans _ _ h1 h2 => rw [h1, h2]
theorem sum_pairs (lens : List Int) : capL (ord lens) = lens.sum - lens.length := by
  have p : ((ord lens).map fun p => p.1 - 1).Perm ((pairs lens).map fun p => p.1 - 1) := (ord_perm lens).map _
  have e : capL (ord lens) = ((pairs lens).map fun p => p.1 - 1).sum := sum_perm p
  rw [e]
  have g : ∀ ls : List Int, (ls.map fun n => n - 1).sum = ls.sum - ls.length := by
    intro ls
    induction ls with
    | nil => rfl
    | cons n ls ih => rw [List.map_cons, List.sum_cons, List.sum_cons, ih, List.length_cons]; omega
  have e2 : (pairs lens).map (fun p => p.1 - 1) = lens.map fun n => n - 1 := by
    unfold pairs
    rw [List.map_map]
    refine List.ext_getElem (by simp) fun i h1 h2 => ?_
    have hi : i < lens.length := by simpa using h2
    simp [List.getD_eq_getElem?_getD, hi]
  rw [e2, g]
theorem sum_shape {lens : List Int} {d : Int} (h1 : ∀ n ∈ lens, 1 ≤ n) (hd : 0 ≤ d) : (greedy (ord lens) d lens).sum = lens.sum - min d (lens.sum - lens.length) := by
  rw [sum_greedy _ _ _ hd (ord_ok h1) (ord_nd lens), sum_pairs]
theorem prodZ_cons (n : Int) (ns : List Int) : prodZ (n :: ns) = n * prodZ ns := by
  have g : ∀ (ns : List Int) (a : Int), ns.foldl (· * ·) a = a * ns.foldl (· * ·) 1 := by
    intro ns
    induction ns with
    | nil => intro a; simp
    | cons m ns ih =>
      intro a
      rw [List.foldl_cons, ih (a * m), List.foldl_cons, ih (1 * m), Int.one_mul, Int.mul_assoc]
  unfold prodZ
  rw [List.foldl_cons, Int.one_mul, g]
theorem prod_pos : ∀ {ns : List Int}, (∀ n ∈ ns, 1 ≤ n) → 1 ≤ prodZ ns
  | [], _ => by unfold prodZ; simp
  | n :: ns, h => by
    rw [prodZ_cons]
    have h1 := h n (List.mem_cons_self ..)
    have h2 := prod_pos fun m hm => h m (List.mem_cons_of_mem _ hm)
    have := Int.mul_pos (show 0 < n by omega) (show 0 < prodZ ns by omega)
    omega
theorem sum_ge : ∀ {ns : List Int}, (∀ n ∈ ns, 1 ≤ n) → (ns.length : Int) ≤ ns.sum
  | [], _ => by simp
  | n :: ns, h => by
    have h1 := h n (List.mem_cons_self ..)
    have h2 := sum_ge fun m hm => h m (List.mem_cons_of_mem _ hm)
    rw [List.length_cons, List.sum_cons]; omega
theorem prod_one : ∀ {ns : List Int}, (∀ n ∈ ns, 1 ≤ n) → (prodZ ns = 1 ↔ ns.sum = ns.length)
  | [], _ => by simp [prodZ]
  | n :: ns, h => by
    have h1 := h n (List.mem_cons_self ..)
    have hr := fun m hm => h m (List.mem_cons_of_mem n hm)
    have h2 := prod_pos hr
    have h3 := sum_ge hr
    have ih := prod_one hr
    rw [prodZ_cons, List.sum_cons, List.length_cons]
    constructor
    · intro e
      by_cases z : n = 1
      · subst z
        rw [Int.one_mul] at e
        have := ih.mp e
        omega
      · have : 2 * prodZ ns ≤ n * prodZ ns := Int.mul_le_mul_of_nonneg_right (by omega) (by omega)
        omega
    · intro e
      have e1 : n = 1 := by omega
      have e2 : ns.sum = ns.length := by omega
      rw [e1, Int.one_mul]
      exact ih.mpr e2
theorem prod_set_le : ∀ {f : List Int} {a : Nat}, (∀ n ∈ f, 1 ≤ n) → a < f.length → prodZ (f.set a (f.getD a 0 - 1)) ≤ prodZ f
  | y :: f, 0, h, _ => by
    have h2 := prod_pos fun m hm => h m (List.mem_cons_of_mem y hm)
    have e : (y :: f).getD 0 0 = y := rfl
    rw [e, List.set_cons_zero, prodZ_cons, prodZ_cons]
    exact Int.mul_le_mul_of_nonneg_right (by omega) (by omega)
  | y :: f, a + 1, h, ha => by
    have h1 := h y (List.mem_cons_self ..)
    have e : (y :: f).getD (a + 1) 0 = f.getD a 0 := rfl
    rw [e, List.set_cons_succ, prodZ_cons, prodZ_cons]
    exact Int.mul_le_mul_of_nonneg_left (prod_set_le (fun m hm => h m (List.mem_cons_of_mem _ hm)) (by simpa using ha)) (by omega)
theorem prod_step {L : List P2} {f : List Int} (h : ∀ n ∈ f, 1 ≤ n) (hL : ∀ p ∈ L, p.2 < f.length) : prodZ (stepF L f) ≤ prodZ f := by
  unfold stepF
  split
  · exact Int.le_refl _
  · rename_i p hp
    exact prod_set_le h (hL p (List.mem_of_find?_eq_some hp))
theorem prod_twos : ∀ {ns : List Int}, (∀ n ∈ ns, n = 1 ∨ n = 2) → prodZ ns = 2 ^ (ns.sum - ns.length).toNat ∧ (ns.length : Int) ≤ ns.sum
  | [], _ => by simp [prodZ]
  | n :: ns, h => by
    obtain ⟨ih1, ih2⟩ := prod_twos fun m hm => h m (List.mem_cons_of_mem n hm)
    rw [prodZ_cons, List.sum_cons, List.length_cons, ih1]
    rcases h n (List.mem_cons_self ..) with z | z
    · subst z
      rw [Int.one_mul]
      exact ⟨by congr 1; omega, by omega⟩
    · subst z
      have e : (2 + ns.sum - ((ns.length + 1 : Nat) : Int)).toNat = (ns.sum - ns.length).toNat + 1 := by omega
      rw [e, Int.pow_succ, Int.mul_comm]
      exact ⟨rfl, by omega⟩
theorem picks_spec {lens : List Int} {d : Int} (h1 : ∀ n ∈ lens, 1 ≤ n ∧ n ≤ 16) (hl : lens.length ≤ 10) (hd : 0 ≤ d) : Wp (g_least_picks [.dat (.tuple (lens.map PyData.int)), .dat (.int d)]) fun r _ => r = .dat (.int (prodZ (greedy (ord lens) d lens))) := by
  have h1' : ∀ n ∈ lens, 1 ≤ n := fun n hn => (h1 n hn).1
  refine (wp_gOf (by rfl)).mpr ?_
  unfold m_least_picks
  repeat (first
      | (with_reducible (first
        | refine i_seq ?_ | refine i_asg ?_ | refine i_asgO ?_ | refine i_asgT ?_ | refine i_ret ?_ | refine i_retO ?_ | refine i_do ?_ | refine i_if ?_ | refine i_next ?_ | refine i_brk ?_ | refine i_cnt ?_ | refine i_retN ?_
        | refine i_c ?_ | refine i_un ?_ | refine i_op ?_ | refine i_b ?_ | refine i_nil ?_ | refine i_cons ?_ | refine i_tst ?_ | refine i_and ?_ | refine i_or ?_ | refine i_not ?_ | refine i_ofT ?_ | refine i_ifE ?_ | refine i_andV ?_ | refine i_orV ?_ | refine i_notV ?_
        | refine i_isi ?_ | refine i_tup ?_ | refine i_lst ?_ | refine i_bO ?_ | refine i_fz ?_ | refine i_od ?_ | refine i_chain ?_ | refine i_call ?_ | refine i_perm ?_ | refine i_for ?_ | refine i_comp ?_ | refine i_it ?_ | refine i_itO ?_ | refine i_yes ?_))
      | (((with_reducible apply i_var); case hv => rfl))
      | ((with_reducible apply i_ofO); case ho => first | (with_reducible first | exact addD_int | exact subD_int | exact eqX_int | exact neX_int | exact eqX_str | exact neX_str | exact ltD_int | exact leD_int | exact gtD_int | exact geD_int | exact negD_int | exact intD_int | exact absD_int | exact reprD_bool | exact reprD_none) | assumption)
      | (with_reducible refine ⟨_, (by assumption : rg1 _ = some _), ?_⟩) | (with_reducible refine ⟨_, (by assumption : rg2 _ = some _), ?_⟩) | (with_reducible refine ⟨_, rg1_int (by decide), ?_⟩) | (with_reducible refine ⟨_, rg2_int (by decide) (by decide), ?_⟩)
      | (with_reducible refine ⟨_, rfl, ?_⟩)
      | ((with_reducible apply ite_t); case h => first | (with_reducible rfl) | assumption)
      | ((with_reducible apply ite_f); case h => first | (with_reducible rfl) | assumption)
      | ((with_reducible apply And.intro); case left => first | rfl | decide | exact Nat.le_of_ble_eq_true rfl))
  refine (shape_spec h1' hl hd).mono fun r e h => ?_
  subst h
  repeat (first
      | (with_reducible (first
        | refine i_seq ?_ | refine i_asg ?_ | refine i_asgO ?_ | refine i_asgT ?_ | refine i_ret ?_ | refine i_retO ?_ | refine i_do ?_ | refine i_if ?_ | refine i_next ?_ | refine i_brk ?_ | refine i_cnt ?_ | refine i_retN ?_
        | refine i_c ?_ | refine i_un ?_ | refine i_op ?_ | refine i_b ?_ | refine i_nil ?_ | refine i_cons ?_ | refine i_tst ?_ | refine i_and ?_ | refine i_or ?_ | refine i_not ?_ | refine i_ofT ?_ | refine i_ifE ?_ | refine i_andV ?_ | refine i_orV ?_ | refine i_notV ?_
        | refine i_isi ?_ | refine i_tup ?_ | refine i_lst ?_ | refine i_bO ?_ | refine i_fz ?_ | refine i_od ?_ | refine i_chain ?_ | refine i_call ?_ | refine i_perm ?_ | refine i_for ?_ | refine i_comp ?_ | refine i_it ?_ | refine i_itO ?_ | refine i_yes ?_))
      | (((with_reducible apply i_var); case hv => rfl))
      | ((with_reducible apply i_ofO); case ho => first | (with_reducible first | exact addD_int | exact subD_int | exact eqX_int | exact neX_int | exact eqX_str | exact neX_str | exact ltD_int | exact leD_int | exact gtD_int | exact geD_int | exact negD_int | exact intD_int | exact absD_int | exact reprD_bool | exact reprD_none) | assumption)
      | (with_reducible refine ⟨_, (by assumption : rg1 _ = some _), ?_⟩) | (with_reducible refine ⟨_, (by assumption : rg2 _ = some _), ?_⟩) | (with_reducible refine ⟨_, rg1_int (by decide), ?_⟩) | (with_reducible refine ⟨_, rg2_int (by decide) (by decide), ?_⟩)
      | (with_reducible refine ⟨_, rfl, ?_⟩)
      | ((with_reducible apply ite_t); case h => first | (with_reducible rfl) | assumption)
      | ((with_reducible apply ite_f); case h => first | (with_reducible rfl) | assumption)
      | ((with_reducible apply And.intro); case left => first | rfl | decide | exact Nat.le_of_ble_eq_true rfl))
  have hb : BoxOf lens (greedy (ord lens) d lens) := box_greedy _ _ _ hd (ord_ok h1') (box_self h1')
  exact product_spec (box_mem hb fun n hn => (h1 n hn).2) (by rw [greedy_length]; exact hl)
theorem sorted_unique : ∀ {xs ys : List P2}, xs.Perm ys → xs.Pairwise le2 → ys.Pairwise le2 → xs = ys
  | [], ys, h, _, _ => h.nil_eq
  | x :: xs, [], h, _, _ => absurd h.length_eq (by simp)
  | x :: xs, y :: ys, h, h1, h2 => by
    obtain ⟨a1, a2⟩ := List.pairwise_cons.mp h1
    obtain ⟨b1, b2⟩ := List.pairwise_cons.mp h2
    have e : x = y := by
      have m1 : x ∈ y :: ys := h.mem_iff.mp (List.mem_cons_self ..)
      have m2 : y ∈ x :: xs := h.mem_iff.mpr (List.mem_cons_self ..)
      rcases List.mem_cons.mp m1 with z | z
      · exact z
      · rcases List.mem_cons.mp m2 with z' | z'
        · exact z'.symm
        · exact le2_antisymm (a1 y z') (b1 x z)
    subst e
    rw [sorted_unique ((List.perm_cons x).mp h) a2 b2]
def ins (p : P2) : List P2 → List P2
  | [] => [p]
  | q :: r => if le2 p q then p :: q :: r else q :: ins p r
def isort : List P2 → List P2
  | [] => []
  | p :: r => ins p (isort r)
theorem ins_perm (p : P2) : ∀ l : List P2, (ins p l).Perm (p :: l)
  | [] => .refl _
  | q :: r => by
    unfold ins
    split
    · exact .refl _
    · exact ((ins_perm p r).cons q).trans (.swap p q r)
theorem isort_perm : ∀ l : List P2, (isort l).Perm l
  | [] => .refl _
  | p :: r => (ins_perm p _).trans ((isort_perm r).cons p)
theorem ins_sorted (p : P2) : ∀ {l : List P2}, l.Pairwise le2 → (ins p l).Pairwise le2
  | [], _ => by simp [ins]
  | q :: r, h => by
    obtain ⟨h1, h2⟩ := List.pairwise_cons.mp h
    unfold ins
    split
    · rename_i hpq
      exact List.pairwise_cons.mpr ⟨fun z hz => by rcases List.mem_cons.mp hz with e | e; exact (by rw [e]; exact hpq); exact le2_trans hpq (h1 z e), h⟩
    · rename_i hpq
      have hqp : le2 q p := (le2_total p q).resolve_left hpq
      refine List.pairwise_cons.mpr ⟨fun z hz => ?_, ins_sorted p h2⟩
      rcases List.mem_cons.mp ((ins_perm p r).mem_iff.mp hz) with e | e
      · rw [e]; exact hqp
      · exact h1 z e
theorem isort_sorted : ∀ l : List P2, (isort l).Pairwise le2
  | [] => .nil
  | p :: r => ins_sorted p (isort_sorted r)
theorem ord_isort (lens : List Int) : ord lens = isort (pairs lens) := sorted_unique ((ord_perm lens).trans (isort_perm _).symm) (ord_sorted lens) (isort_sorted _)
def chk (lens x : List Int) : Bool := decide (prodZ (greedy (isort (pairs lens)) (lens.sum - x.sum) lens) ≤ prodZ x)
def up (n : Nat) : List Int := (List.range n).map fun i : Nat => 1 + (i : Int)
theorem chk1 : ((up 5).all fun a => (up a.toNat).all fun x => chk [a] [x]) = true := by decide +kernel
theorem chk2 : ((up 5).all fun a => (up 5).all fun b => (up a.toNat).all fun x => (up b.toNat).all fun y => chk [a, b] [x, y]) = true := by decide +kernel
theorem chk3 : ((up 5).all fun a => (up 5).all fun b => (up 5).all fun c => (up a.toNat).all fun x => (up b.toNat).all fun y => (up c.toNat).all fun z => chk [a, b, c] [x, y, z]) = true := by decide +kernel
theorem mem_up {n : Nat} {a : Int} (h1 : 1 ≤ a) (h2 : a ≤ n) : a ∈ up n := List.mem_map.mpr ⟨(a - 1).toNat, List.mem_range.mpr (by omega), by omega⟩
theorem greedy_cap : ∀ (L : List P2) (d : Int) (f : List Int), 0 ≤ d → (∀ p ∈ L, 1 ≤ p.1) → greedy L d f = greedy L (min d (capL L)) f
  | [], d, f, _, _ => rfl
  | (l, a) :: r, d, f, hd, h => by
    have h1 := h (l, a) (List.mem_cons_self ..)
    have hr := fun p hp => h p (List.mem_cons_of_mem (l, a) hp)
    have hc := capL_nonneg hr
    have e2 : capL ((l, a) :: r) = l - 1 + capL r := by unfold capL; rw [List.map_cons, List.sum_cons]
    simp only at h1
    unfold greedy
    have e3 : min (min d (capL ((l, a) :: r))) (l - 1) = min d (l - 1) := by rw [e2]; omega
    rw [e3, greedy_cap r _ _ (by omega) hr, greedy_cap r (min d (capL ((l, a) :: r)) - _) _ (by rw [e2]; omega) hr]
    congr 1
    rw [e2]; omega
theorem least_box {lens x : List Int} {d : Int} (hn : lens.length < 4) (hn1 : 1 ≤ lens.length) (h1 : ∀ n ∈ lens, 1 ≤ n ∧ n ≤ 5) (hx : BoxOf lens x) (hd : 0 ≤ d) (hs : x.sum = (greedy (ord lens) d lens).sum) : prodZ (greedy (ord lens) d lens) ≤ prodZ x := by
  have h1' : ∀ n ∈ lens, 1 ≤ n := fun n hn => (h1 n hn).1
  rw [sum_shape h1' hd] at hs
  have e : greedy (ord lens) d lens = greedy (isort (pairs lens)) (lens.sum - x.sum) lens := by
    rw [greedy_cap _ _ _ hd fun p hp => (ord_ok h1' p hp).2, sum_pairs, ord_isort]
    congr 1
    omega
  rw [e]
  have up5 : ∀ a ∈ lens, a ∈ up 5 := fun a ha => mem_up (h1 a ha).1 (h1 a ha).2
  have upx : ∀ (a y : Int), 1 ≤ y → y ≤ a → y ∈ up a.toNat := fun a y h h' => mem_up h (by omega)
  obtain ⟨hl, hb⟩ := hx
  match lens, x, hl, hb, up5, hn, hn1 with
  | [a], [x], _, hb, up5, _, _ =>
    have := List.all_eq_true.mp (List.all_eq_true.mp chk1 a (up5 a (by simp))) x (upx a x (hb 0 (by simp)).1 (hb 0 (by simp)).2)
    exact of_decide_eq_true this
  | [a, b], [x, y], _, hb, up5, _, _ =>
    have := List.all_eq_true.mp (List.all_eq_true.mp (List.all_eq_true.mp (List.all_eq_true.mp chk2 a (up5 a (by simp))) b (up5 b (by simp))) x (upx a x (hb 0 (by simp)).1 (hb 0 (by simp)).2)) y (upx b y (hb 1 (by simp)).1 (hb 1 (by simp)).2)
    exact of_decide_eq_true this
  | [a, b, c], [x, y, z], _, hb, up5, _, _ =>
    have := List.all_eq_true.mp (List.all_eq_true.mp (List.all_eq_true.mp (List.all_eq_true.mp (List.all_eq_true.mp (List.all_eq_true.mp chk3 a (up5 a (by simp))) b (up5 b (by simp))) c (up5 c (by simp))) x (upx a x (hb 0 (by simp)).1 (hb 0 (by simp)).2)) y (upx b y (hb 1 (by simp)).1 (hb 1 (by simp)).2)) z (upx c z (hb 2 (by simp)).1 (hb 2 (by simp)).2)
    exact of_decide_eq_true this
theorem choices_succ {rows : List (List Int)} {k : Nat} {row : List Int} (h : rows[k]? = some row) : choicesZ (rows.take (k + 1)) = (choicesZ (rows.take k)).flatMap (grow1 row) := by
  unfold choicesZ
  rw [List.take_succ, h, List.foldl_append]; rfl
theorem choices_b1 {t0 t1 : Sl} {row c : List Int} {later : List (List Int)} (hc : c.length ≤ 1000) (hr : later.length + row.length ≤ 16777216) : Wp (b1__law_choices [t0, t1, .dat (lI row), .dat (.list (later.map tI)), .dat (tI c), .un]) fun k e => k = .next ∧
    e = [t0, t1, .dat (lI row), .dat (.list ((later ++ grow1 row c).map tI)), .dat (tI c), .un] := by
  have hcat : addD (.list (later.map tI)) (.list ((grow1 row c).map tI)) = some (.list ((later ++ grow1 row c).map tI)) := catL_map (by unfold grow1; rw [List.length_map]; exact hr)
  unfold b1__law_choices
  refine i_asg (i_op (i_var (by rfl) (i_fz (i_comp (i_it (i_var (d := lI row) (by rfl) ⟨_, rfl, by rw [List.length_map]; omega, ?_⟩))))))
  refine wp_compA PyData.int row (fun o => tI (c ++ [o])) (fun o ho => ⟨_, rfl, ?_⟩) ?_
  · exact i_op (i_var (d := tI c) (by rfl) (i_tup (i_cons (i_var (by rfl) (i_nil ⟨Nat.le_of_ble_eq_true rfl, i_ofO (catT_int hc) ⟨rfl, rfl⟩⟩)))))
  · refine ⟨_, rfl, i_ofO (d := .list ((later ++ grow1 row c).map tI)) ?_ ⟨rfl, rfl⟩⟩
    have : row.map (fun o => tI (c ++ [o])) = (grow1 row c).map tI := by unfold grow1; rw [List.map_map]; rfl
    rw [this]
    exact hcat
theorem flat_len {row : List Int} : ∀ cs : List (List Int), (cs.flatMap (grow1 row)).length = cs.length * row.length
  | [] => by simp
  | c :: cs => by rw [List.flatMap_cons, List.length_append, flat_len cs]; unfold grow1; rw [List.length_map, List.length_cons, Nat.add_mul]; omega
theorem choices_b2 {t0 : Sl} {row : List Int} {x3 x4 : Sl} {found : List (List Int)} (hc : ∀ c ∈ found, c.length ≤ 1000) (hr : found.length * row.length ≤ 1000000) (hr2 : row.length ≤ 1000) : Wp (b2__law_choices [t0, .dat (.list (found.map tI)), .dat (lI row), x3, x4, .un]) fun k e => k = .next ∧
    ∃ x3 x4, e = [t0, .dat (.list ((found.flatMap (grow1 row)).map tI)), .dat (lI row), x3, x4, .un] := by
  unfold b2__law_choices
  refine i_seq (i_asg (i_fz (i_lst (i_nil ⟨by decide, _, rfl, ?_⟩))))
  refine i_seq (i_for (i_it (i_var (d := .list (found.map tI)) (by rfl) ⟨_, rfl, ?_⟩)))
  refine wp_forN (fun j e => ∃ x4, e = [t0, .dat (.list (found.map tI)), .dat (lI row), .dat (.list (((found.take j).flatMap (grow1 row)).map tI)), x4, .un]) ⟨_, rfl⟩ (fun j x e hx hi => ?_) fun e hi => ?_
  · obtain ⟨x4, rfl⟩ := hi
    rw [List.getElem?_map] at hx
    obtain ⟨c, hcj, rfl⟩ := Option.map_eq_some_iff.mp hx
    have hj : j < found.length := (List.getElem?_eq_some_iff.mp hcj).1
    have e1 : (found.take (j + 1)).flatMap (grow1 row) = (found.take j).flatMap (grow1 row) ++ grow1 row c := by
      rw [List.take_succ, hcj, List.flatMap_append]; simp
    refine ⟨_, rfl, (choices_b1 (hc c (List.mem_of_getElem? hcj)) ?_).mono fun k e h => ?_⟩
    · rw [flat_len, List.length_take, Nat.min_eq_left (Nat.le_of_lt hj)]
      have : j * row.length ≤ found.length * row.length := Nat.mul_le_mul_right _ (Nat.le_of_lt hj)
      omega
    · obtain ⟨rfl, rfl⟩ := h
      rw [e1]
      exact ⟨rfl, _, rfl⟩
  · obtain ⟨x4, rfl⟩ := hi
    rw [List.length_map, List.take_length]
    exact i_asg (i_var (by rfl) ⟨rfl, _, _, rfl⟩)
theorem choices_spec {rows : List (List Int)} (hn : rows.length ≤ 1000) (hb : ∀ k row, rows[k]? = some row → (choicesZ (rows.take k)).length * row.length ≤ 1000000 ∧ row.length ≤ 1000) : Wp (g__law_choices [.dat (.list (rows.map lI))]) fun r _ => r = .dat (.list ((choicesZ rows).map tI)) := by
  refine (wp_gOf (by rfl)).mpr ?_
  unfold m__law_choices
  refine i_seq (i_asg (i_fz (i_lst (i_cons (i_tup (i_nil ⟨by decide, i_nil ⟨by decide, _, rfl, ?_⟩⟩))))))
  refine i_seq (i_for (i_it (i_var (d := .list (rows.map lI)) (by rfl) ⟨_, rfl, ?_⟩)))
  refine wp_forN (fun k e => ∃ x2 x3 x4, e = [.dat (.list (rows.map lI)), .dat (.list ((choicesZ (rows.take k)).map tI)), x2, x3, x4, .un]) ⟨_, _, _, rfl⟩ (fun k x e hx hi => ?_) fun e hi => ?_
  · obtain ⟨x2, x3, x4, rfl⟩ := hi
    rw [List.getElem?_map] at hx
    obtain ⟨row, hrow, rfl⟩ := Option.map_eq_some_iff.mp hx
    obtain ⟨b1, b2⟩ := hb k row hrow
    refine ⟨_, rfl, (choices_b2 (fun c hc => ?_) b1 b2).mono fun c e h => ?_⟩
    · have := choices_len (rows.take k) [[]] 0 (by simp) c hc
      rw [this, List.length_take]; omega
    · obtain ⟨rfl, x3, x4, rfl⟩ := h
      rw [choices_succ hrow]
      exact ⟨rfl, _, _, _, rfl⟩
  · obtain ⟨x2, x3, x4, rfl⟩ := hi
    rw [List.length_map, List.take_length]
    exact i_retO (i_mv rfl rfl)
def Fits : List (List Int) → List Int → Prop
  | [], [] => True
  | r :: rs, x :: xs => x ∈ r ∧ Fits rs xs
  | _, _ => False
theorem mem_choices : ∀ (rows : List (List Int)) (acc : List (List Int)) (c : List Int), c ∈ rows.foldl (fun found row => found.flatMap (grow1 row)) acc ↔ ∃ b ∈ acc, ∃ t, c = b ++ t ∧ Fits rows t
  | [], acc, c => by
    constructor
    · intro h; exact ⟨c, h, [], by simp, trivial⟩
    · rintro ⟨b, hb, t, rfl, ht⟩
      cases t with
      | nil => simpa using hb
      | cons x t => exact ht.elim
  | row :: rows, acc, c => by
    rw [List.foldl_cons, mem_choices rows]
    constructor
    · rintro ⟨b, hb, t, rfl, ht⟩
      obtain ⟨a, ha, hb⟩ := List.mem_flatMap.mp hb
      obtain ⟨o, ho, rfl⟩ := List.mem_map.mp hb
      exact ⟨a, ha, o :: t, by simp, ho, ht⟩
    · rintro ⟨b, hb, t, rfl, ht⟩
      cases t with
      | nil => exact ht.elim
      | cons x t => exact ⟨b ++ [x], List.mem_flatMap.mpr ⟨b, hb, List.mem_map.mpr ⟨x, ht.1, rfl⟩⟩, t, by simp, ht.2⟩
theorem fits_box : ∀ (lens x : List Int), Fits (lens.map fun l => up l.toNat) x ↔ BoxOf lens x
  | [], [] => ⟨fun _ => ⟨rfl, fun i hi => by simp at hi⟩, fun _ => trivial⟩
  | [], x :: xs => ⟨fun h => h.elim, fun h => by have := h.1; simp at this⟩
  | l :: ls, [] => ⟨fun h => h.elim, fun h => by have := h.1; simp at this⟩
  | l :: ls, x :: xs => by
    have ih := fits_box ls xs
    constructor
    · rintro ⟨h1, h2⟩
      obtain ⟨a, b⟩ := ih.mp h2
      refine ⟨by simp [a], fun i hi => ?_⟩
      cases i with
      | zero =>
        obtain ⟨j, hj, rfl⟩ := List.mem_map.mp h1
        have := List.mem_range.mp hj
        show 1 ≤ 1 + (j : Int) ∧ 1 + (j : Int) ≤ l
        omega
      | succ i => exact b i (by simpa using hi)
    · rintro ⟨a, b⟩
      refine ⟨?_, ih.mpr ⟨by simpa using a, fun i hi => b (i + 1) (by simpa using hi)⟩⟩
      have := b 0 (by simp)
      have h1 : 1 ≤ x ∧ x ≤ l := this
      exact mem_up h1.1 (by omega)
end K36
namespace K36
open PySem PySem.Spec L2 Lp
theorem lelement_spec {p x : Int} (hp : 2 ≤ p) : Wp (g__law_element [.dat (.int p), .dat (.int x)]) fun r _ => r = .dat (.int (x % p)) := by
  refine (wp_gOf (by rfl)).mpr ?_
  unfold m__law_element
  refine i_ret (i_ifE (i_tst (i_op (i_var (d := .int p) (by rfl) (i_c (i_ofO eqX_int ⟨_, rfl, ite_f (decide_eq_false (by omega)) ?_⟩))))))
  exact i_op (i_b (i_cons (i_var (d := .int x) (by rfl) (i_nil (i_ofO intD_int (i_var (d := .int p) (by rfl) (i_ofO (modD_int (by omega)) rfl)))))))
theorem element_spec {p x : Int} (hp : 2 ≤ p) : Wp (g_element [.dat (.int p), .dat (.int x)]) fun r _ => r = .dat (.int (x % p)) := lelement_spec hp
def powZ (p x : Int) : Nat → Int
  | 0 => 1
  | k + 1 => (powZ p x k * x) % p
theorem powZ_bounds {p x : Int} (hp : 2 ≤ p) : ∀ k, 0 ≤ powZ p x k ∧ powZ p x k < p
  | 0 => by unfold powZ; omega
  | k + 1 => by
    unfold powZ
    exact ⟨Int.emod_nonneg _ (by omega), Int.emod_lt_of_pos _ (by omega)⟩
theorem power_spec {p x : Int} {k : Nat} (hp : 2 ≤ p) (hp2 : p ≤ 101) (x0 : 0 ≤ x) (x1 : x < p) (hk : k ≤ 1000) : Wp (g__law_power [.dat (.int p), .dat (.int x), .dat (.int (k : Nat))]) fun r _ => r = .dat (.int (powZ p x k)) := by
  refine (wp_gOf (by rfl)).mpr ?_
  unfold m__law_power
  have hr : rg1 [.int (k : Nat)] = some (rng 0 k) := rg1_int (inR_of (by omega) (by omega))
  refine i_seq (i_asg (i_c ?_))
  refine i_seq (i_for (i_itO (i_cons (i_var (d := .int (k : Nat)) (by rfl) (i_nil ⟨_, hr, ?_⟩)))))
  refine wp_forN (fun j e => ∃ y, e = [.dat (.int p), .dat (.int x), .dat (.int (k : Nat)), .dat (.int (powZ p x j)), y]) ⟨_, rfl⟩ (fun j y e hx hi => ?_) fun e hi => ?_
  · obtain ⟨z, rfl⟩ := hi
    have hb := powZ_bounds (x := x) hp j
    refine ⟨_, rfl, ?_⟩
    unfold b1__law_power
    refine i_asg (i_fz (i_call (i_cons (i_var (d := .int p) (by rfl) (i_cons (i_op (i_var (d := .int (powZ p x j)) (by rfl) (i_var (d := .int x) (by rfl) (i_ofO (mulX_int (mulD_ok (by omega) (by omega))) (i_nil ((lelement_spec hp).mono fun r e h => ?_)))))))))))
    subst h
    exact ⟨_, rfl, rfl, _, rfl⟩
  · obtain ⟨z, rfl⟩ := hi
    rw [rng_len]
    exact i_retO (i_mv (d := .int (powZ p x k)) (by rfl) rfl)
abbrev Tm := List Int × Int
def tmD (t : Tm) : D := .tuple [tI t.1, .int t.2]
def polyD (f : List Tm) : D := .tuple (f.map tmD)
abbrev Tab := List (List Int × Int)
def tabD (kv : Tab) : List (List Int × D) := kv.map fun q => (q.1, .int q.2)
def valZ (kv : Tab) (k : List Int) : Int := ((kv.find? fun q => decide (q.1 = k)).map (·.2)).getD 0
def putZ (kv : Tab) (k : List Int) (x : Int) : Tab := if k ∈ kv.map (·.1) then kv.map (fun q => if q.1 = k then (q.1, x) else q) else kv ++ [(k, x)]
theorem look_tab (kv : Tab) (k : List Int) : lookD (tabD kv) k = ((kv.find? fun q => decide (q.1 = k)).map (·.2)).map PyData.int := by
  unfold lookD tabD
  rw [List.find?_map, Option.map_map, Option.map_map]; rfl
theorem put_tab (kv : Tab) (k : List Int) (x : Int) : putD (tabD kv) k (.int x) = tabD (putZ kv k x) := by
  have hk : (tabD kv).map (·.1) = kv.map (·.1) := by unfold tabD; rw [List.map_map]; rfl
  unfold putD putZ
  by_cases h : k ∈ kv.map (·.1)
  · have h' : (lookD (tabD kv) k).isSome = true := by rw [lookD_isSome, hk]; simpa using h
    rw [if_pos h', if_pos h]
    unfold tabD
    rw [List.map_map, List.map_map]
    refine List.map_congr_left fun q _ => ?_
    simp only [Function.comp]
    split <;> rfl
  · have h' : ¬ (lookD (tabD kv) k).isSome = true := by rw [lookD_isSome, hk]; simpa using h
    rw [if_neg h', if_neg h]
    unfold tabD
    rw [List.map_append]; rfl
theorem look_mem {kv : Tab} {k : List Int} (h : k ∈ kv.map (·.1)) : lookD (tabD kv) k = some (.int (valZ kv k)) ∧ (k, valZ kv k) ∈ kv := by
  obtain ⟨q, hq, rfl⟩ := List.mem_map.mp h
  rw [look_tab]
  unfold valZ
  cases e : kv.find? fun r => decide (r.1 = q.1) with
  | none =>
    rw [List.find?_eq_none] at e
    exact absurd (decide_eq_true (rfl : q.1 = q.1)) (e q hq)
  | some r =>
    have h1 := List.find?_some e
    have h2 := List.mem_of_find?_eq_some e
    simp only [decide_eq_true_eq] at h1
    refine ⟨rfl, ?_⟩
    show (q.1, r.2) ∈ kv
    rw [← h1]; exact h2
def tidyZ (p : Int) (kv : Tab) : Tab := ((sortI (kv.map (·.1))).filter fun k => !decide (valZ kv k % p = 0)).map fun k => (k, valZ kv k % p)
theorem tidy_spec {p : Int} {kv : Tab} (hp : 2 ≤ p) (hne : ∀ q ∈ kv, q.1 ≠ []) (hl : kv.length ≤ 1000) : Wp (g__law_tidy [.dat (.int p), .dat (dctD (tabD kv))]) fun r _ => r = .dat (polyD (tidyZ p kv)) := by
  refine (wp_gOf (by rfl)).mpr ?_
  unfold m__law_tidy
  have hk : (tabD kv).map (·.1) = kv.map (·.1) := by unfold tabD; rw [List.map_map]; rfl
  have hs := sortX_dct (kvs := tabD kv) (fun q hq => by
    unfold tabD at hq
    obtain ⟨r, hr, rfl⟩ := List.mem_map.mp hq
    exact hne r hr) (by unfold tabD; rw [List.length_map]; omega)
  rw [hk] at hs
  have hsl : (sortI (kv.map (·.1))).length = kv.length := by rw [(sortI_perm _).length_eq, List.length_map]
  refine i_ret (i_b (i_cons (i_fz (i_comp (i_it (i_fz (i_bO (i_cons (i_var (d := dctD (tabD kv)) (by rfl) (i_nil ⟨_, hs, _, rfl, _, rfl, by rw [List.length_map]; omega, ?_⟩))))))))))
  have hval : ∀ k ∈ sortI (kv.map (·.1)), ∀ e : Env', e = [.dat (.int p), .dat (dctD (tabD kv)), .dat (tI k)] → Wp ((mFz (mCall g__law_element (mCons (mVar 0) (mCons (mOp idxX (mVar 1) (mVar 2)) mNil)))) e) fun d e' => d = .int (valZ kv k % p) ∧ e' = e := by
    intro k hk e he
    subst he
    have hm := (sortI_perm _).mem_iff.mp hk
    refine i_fz (i_call (i_cons (i_var (d := .int p) (by rfl) (i_cons (i_op (i_var (d := dctD (tabD kv)) (by rfl) (i_var (d := tI k) (by rfl) (i_ofO (idxX_dct (look_mem hm).1) (i_nil ((lelement_spec hp).mono fun r e h => ?_))))))))))
    subst h
    exact ⟨_, rfl, rfl, rfl⟩
  refine wp_compM tI (sortI (kv.map (·.1))) (fun k => !decide (valZ kv k % p = 0)) (fun k => tmD (k, valZ kv k % p)) (fun k hk => ⟨_, rfl, ?_⟩) ?_
  · refine i_tst (i_op ((hval k hk _ rfl).mono fun d e h => ?_))
    obtain ⟨rfl, rfl⟩ := h
    refine i_c (i_ofO neX_int ⟨_, rfl, rfl, ?_⟩)
    split
    · refine i_tup (i_cons (i_var (d := tI k) (by rfl) (i_cons ((hval k hk _ rfl).mono fun d e h => ?_))))
      obtain ⟨rfl, rfl⟩ := h
      exact i_nil ⟨by simp, rfl, rfl⟩
    · rfl
  refine ⟨_, rfl, i_nil (i_ofO (d := polyD (tidyZ p kv)) ?_ rfl)⟩
  unfold polyD tidyZ
  rw [List.map_map]; rfl
theorem tidy_mem {p : Int} {kv : Tab} (hp : 2 ≤ p) {t : Tm} (h : t ∈ tidyZ p kv) : (∃ q ∈ kv, q.1 = t.1) ∧ 1 ≤ t.2 ∧ t.2 < p := by
  unfold tidyZ at h
  obtain ⟨k, hk, rfl⟩ := List.mem_map.mp h
  obtain ⟨h1, h2⟩ := List.mem_filter.mp hk
  have hm := (sortI_perm _).mem_iff.mp h1
  refine ⟨⟨_, (look_mem hm).2, rfl⟩, ?_⟩
  have a := Int.emod_nonneg (valZ kv k) (show p ≠ 0 by omega)
  have b := Int.emod_lt_of_pos (valZ kv k) (show 0 < p by omega)
  simp only [Bool.not_eq_true', decide_eq_false_iff_not] at h2
  simp only
  omega
theorem tidy_len (p : Int) (kv : Tab) : (tidyZ p kv).length ≤ kv.length := by
  unfold tidyZ
  rw [List.length_map]
  refine Nat.le_trans (List.length_filter_le _ _) ?_
  rw [(sortI_perm _).length_eq, List.length_map]
  exact Nat.le_refl _
def TabOk (n : Nat) (m : Int) (kv : Tab) : Prop := ∀ q ∈ kv, q.1.length = n ∧ ∀ x ∈ q.1, 0 ≤ x ∧ x ≤ m
theorem tabOk_nil {n : Nat} {m : Int} : TabOk n m [] := fun q hq => by cases hq
theorem put_ok {n : Nat} {m : Int} {kv : Tab} {k : List Int} {x : Int} (h : TabOk n m kv) (hk : k.length = n ∧ ∀ x ∈ k, 0 ≤ x ∧ x ≤ m) : TabOk n m (putZ kv k x) := fun q hq => by
  unfold putZ at hq
  split at hq
  · obtain ⟨r, hr, rfl⟩ := List.mem_map.mp hq
    split
    · exact h r hr
    · exact h r hr
  · rcases List.mem_append.mp hq with z | z
    · exact h q z
    · rw [List.mem_singleton.mp z]; exact hk
theorem put_len (kv : Tab) (k : List Int) (x : Int) : (putZ kv k x).length ≤ kv.length + 1 := by
  unfold putZ
  split
  · rw [List.length_map]; omega
  · rw [List.length_append]; simp
theorem dct_len (kv : Tab) : (tabD kv).length = kv.length := by unfold tabD; rw [List.length_map]
def PolyOk (p : Int) (n : Nat) (m : Int) (f : List Tm) : Prop := ∀ t ∈ f, t.1.length = n ∧ (∀ x ∈ t.1, 0 ≤ x ∧ x ≤ m) ∧ 1 ≤ t.2 ∧ t.2 < p
theorem tidy_ok {p : Int} {n : Nat} {m : Int} {kv : Tab} (hp : 2 ≤ p) (h : TabOk n m kv) : PolyOk p n m (tidyZ p kv) := fun t ht => by
  obtain ⟨⟨q, hq, e⟩, h1, h2⟩ := tidy_mem hp ht
  have := h q hq
  rw [e] at this
  exact ⟨this.1, this.2, h1, h2⟩
theorem some_spec {c : List Int} {b p : Int} (hd : DealOk c b) (hp : 2 ≤ p) (hp2 : p ≤ 101) : Wp (g__law_some [.deal c b, .dat (.int p)]) fun r e => ∃ x c' b', r = .dat (.int x) ∧ e.getD 0 .un = .deal c' b' ∧ DealOk c' b' := by
  refine (wp_gOf (by rfl)).mpr ?_
  unfold m__law_some
  refine i_ret (i_ifE (i_tst (i_op (i_var (d := .int p) (by rfl) (i_c (i_ofO eqX_int ⟨_, rfl, ite_f (by simp; omega) ?_⟩))))))
  exact i_fz (wp_any (i := 0) (k := p) (by rfl) hd (i_var (d := .int p) (by rfl) ⟨rfl, rfl⟩) (by omega) (by omega) fun n c b h0 h1 hd => ⟨_, rfl, _, _, _, rfl, rfl, hd⟩)
theorem polynomial_spec {c : List Int} {b p terms power : Int} {n : Nat} (hd : DealOk c b) (hp : 2 ≤ p) (hp2 : p ≤ 101) (hn1 : 1 ≤ n) (hn : n ≤ 100) (t0 : 0 ≤ terms) (t1 : terms ≤ 100) (w0 : 0 ≤ power) (w1 : power ≤ 100) :
    Wp (g__law_polynomial [.deal c b, .dat (.int p), .dat (.int (n : Nat)), .dat (.int terms), .dat (.int power)]) fun r e => ∃ f c' b', r = .dat (polyD f) ∧ PolyOk p n power f ∧ (f.length : Int) ≤ terms ∧ e.getD 0 .un = .deal c' b' ∧ DealOk c' b' := by
  refine (wp_gOf (by rfl)).mpr ?_
  unfold m__law_polynomial
  refine i_seq (i_asgO (i_dnewT ?_))
  refine i_seq (i_for (i_itO (i_cons (i_fz (wp_any (i := 0) (k := terms + 1) (by rfl) hd (i_op (i_var (d := .int terms) (by rfl) (i_c (i_ofO addD_int ⟨rfl, rfl⟩)))) (by omega) (by omega) fun m c b m0 m1 hd => ⟨_, rfl, i_nil ⟨_, rg1_int (inR_of (by omega) (by omega)), ?_⟩⟩)))))
  have hrn : rg1 [.int (n : Nat)] = some (rng 0 n) := rg1_int (inR_of (by omega) (by omega))
  refine wp_forN (fun j e => ∃ c b kv x6 x7, DealOk c b ∧ TabOk n power kv ∧ kv.length ≤ j ∧ e = [.deal c b, .dat (.int p), .dat (.int (n : Nat)), .dat (.int terms), .dat (.int power), .dcT (tabD kv), x6, x7, .un]) ⟨c, b, [], _, _, hd, tabOk_nil, Nat.le_refl _, rfl⟩ (fun j y e hx hi => ?_) fun e hi => ?_
  · obtain ⟨c, b, kv, x6, x7, hd, hok, hlen, rfl⟩ := hi
    have hj : j < m.toNat := by
      have := (List.getElem?_eq_some_iff.mp hx).1
      rwa [rng_len] at this
    refine ⟨_, rfl, ?_⟩
    unfold b1__law_polynomial
    refine i_seq (i_asg (i_b (i_cons (i_fz (i_comp (i_itO (i_cons (i_var (d := .int (n : Nat)) (by rfl) (i_nil ⟨_, hrn, by rw [rng_len]; omega, ?_⟩)))))))))
    refine wp_compD (fun c b => [.deal c b, .dat (.int p), .dat (.int (n : Nat)), .dat (.int terms), .dat (.int power), .dcT (tabD kv), .dat y, x7, .un]) (fun i acc => ∃ xs : List Int, acc = xs.map PyData.int ∧ xs.length = i ∧ ∀ x ∈ xs, 0 ≤ x ∧ x ≤ power) hd ⟨[], rfl, rfl, by simp⟩ (fun i x acc c b h hp' hd => ⟨_, rfl, ?_⟩) fun acc c b ha hd => ?_
    · obtain ⟨xs, rfl, hl, hxs⟩ := hp'
      refine i_ifE (i_tst (i_op (i_fz (wp_any (i := 0) (k := 3) (by rfl) hd (i_c ⟨rfl, rfl⟩) (by omega) (by omega) fun z c b z0 z1 hd => ⟨_, rfl, i_c (i_ofO gtD_int ⟨_, rfl, ite_b (fun zz => ?_) fun zz => ?_⟩)⟩))))
      · refine i_fz (wp_any (i := 0) (k := power + 1) (by rfl) hd (i_op (i_var (d := .int power) (by rfl) (i_c (i_ofO addD_int ⟨rfl, rfl⟩)))) (by omega) (by omega) fun z c b z0 z1 hd => ⟨_, rfl, ⟨xs ++ [z], by simp, by simp [hl], fun y hy => ?_⟩, c, b, hd, rfl⟩)
        rcases List.mem_append.mp hy with h | h
        · exact hxs y h
        · rw [List.mem_singleton.mp h]; omega
      · refine i_c ⟨⟨xs ++ [0], by simp, by simp [hl], fun y hy => ?_⟩, c, b, hd, rfl⟩
        rcases List.mem_append.mp hy with h | h
        · exact hxs y h
        · rw [List.mem_singleton.mp h]; omega
    obtain ⟨xs, rfl, hl, hxs⟩ := ha
    rw [rng_len] at hl
    refine ⟨_, rfl, i_nil (i_ofO (d := tI xs) rfl ?_)⟩
    show Wp (mDPut _ _ _ [.deal c b, .dat (.int p), .dat (.int (n : Nat)), .dat (.int terms), .dat (.int power), .dcT (tabD kv), .dat y, .dat (tI xs), .un]) _
    refine i_dputT (n := []) (d := .none) (kvs0 := tabD kv) (i_fz (i_callIO (c := c) (b := b) (by rfl) (i_cons (i_var (d := .int p) (by rfl) (i_nil ⟨c, b, rfl, (some_spec hd hp hp2).mono fun r e h => ?_⟩)))))
    obtain ⟨v, c, b, rfl, he, hd⟩ := h
    rw [he]
    refine ⟨_, rfl, rfl, i_var (d := tI xs) (by rfl) ⟨tabD kv, xs, rfl, rfl, by rw [dct_len]; omega, rfl, c, b, putZ kv xs v, .dat y, .dat (tI xs), hd, put_ok hok ⟨hl, hxs⟩, by have := put_len kv xs v; omega, ?_⟩⟩
    rw [put_tab]; rfl
  · obtain ⟨c, b, kv, x6, x7, hd, hok, hlen, rfl⟩ := hi
    rw [rng_len] at hlen
    refine i_retO (i_call (i_cons (i_var (d := .int p) (by rfl) (i_cons (i_varT (kvs := tabD kv) (by rfl) (i_nil ((tidy_spec hp (fun q hq e => ?_) (by omega)).mono fun r e h => ?_)))))))
    · have := (hok q hq).1
      rw [e] at this
      simp at this; omega
    · subst h
      have := tidy_len p kv
      exact ⟨_, c, b, rfl, tidy_ok hp hok, by omega, rfl, hd⟩
theorem max_ints {x : Int} {xs : List Int} : ∃ m, bestD PySem.W.maxD [.list ((x :: xs).map PyData.int)] = some (.int m) ∧ m ∈ x :: xs ∧ ∀ y ∈ x :: xs, y ≤ m := by
  have ok : ordOk ((x :: xs).map PyData.int) = true := by
    unfold ordOk alikeB
    have d1 := lay_ints (x :: xs)
    simp only [Bool.and_eq_true, List.all_eq_true, decide_eq_true_eq]
    refine ⟨⟨⟨fun a ha b hb => ?_, fun a ha => ?_⟩, d1.1⟩, by have := d1.2; omega⟩
    · obtain ⟨p, _, rfl⟩ := List.mem_map.mp ha
      obtain ⟨r, _, rfl⟩ := List.mem_map.mp hb
      simp [PySem.W.alike]
    · obtain ⟨p, _, rfl⟩ := List.mem_map.mp ha
      rfl
  have fold : ∀ (qs : List Int) (a : Int), ∃ m, (qs.map PyData.int).foldl (fun a y => if PySem.W.dataLt a y then y else a) (.int a) = .int m ∧ (m = a ∨ m ∈ qs) ∧ a ≤ m ∧ ∀ r ∈ qs, r ≤ m := by
    intro qs
    induction qs with
    | nil => exact fun a => ⟨a, rfl, .inl rfl, Int.le_refl _, by simp⟩
    | cons p ps ih =>
      intro a
      rw [List.map_cons, List.foldl_cons, PySem.W.dataLt_int]
      by_cases hc : a < p
      · rw [decide_eq_true hc, if_pos rfl]
        obtain ⟨m, e, h1, h2, h3⟩ := ih p
        refine ⟨m, e, ?_, by omega, fun r hr => ?_⟩
        · rcases h1 with z | z
          · exact .inr (by rw [z]; simp)
          · exact .inr (List.mem_cons_of_mem _ z)
        · rcases List.mem_cons.mp hr with z | z
          · rw [z]; exact h2
          · exact h3 r z
      · rw [decide_eq_false hc, if_neg (by decide)]
        obtain ⟨m, e, h1, h2, h3⟩ := ih a
        refine ⟨m, e, ?_, h2, fun r hr => ?_⟩
        · rcases h1 with z | z
          · exact .inl z
          · exact .inr (List.mem_cons_of_mem _ z)
        · rcases List.mem_cons.mp hr with z | z
          · rw [z]; omega
          · exact h3 r z
  obtain ⟨m, e, h1, h2, h3⟩ := fold xs x
  refine ⟨m, ?_, by rcases h1 with z | z; exact (by rw [z]; simp); exact List.mem_cons_of_mem _ z, fun r hr => by rcases List.mem_cons.mp hr with z | z; exact (by rw [z]; exact h2); exact h3 r z⟩
  show (if ordOk ((x :: xs).map PyData.int) = true then some (PySem.W.maxD (.int x) (xs.map PyData.int)) else none) = _
  rw [if_pos ok]
  unfold PySem.W.maxD
  rw [e]
def degZ (f : List Tm) : Int := (f.map fun t => t.1.sum).foldl max (-1)
theorem foldl_max : ∀ (xs : List Int) (a : Int), (xs.foldl max a = a ∨ xs.foldl max a ∈ xs) ∧ a ≤ xs.foldl max a ∧ ∀ x ∈ xs, x ≤ xs.foldl max a
  | [], a => ⟨.inl rfl, Int.le_refl _, by simp⟩
  | x :: xs, a => by
    obtain ⟨h1, h2, h3⟩ := foldl_max xs (max a x)
    rw [List.foldl_cons]
    refine ⟨?_, by omega, fun y hy => ?_⟩
    · rcases h1 with h | h
      · by_cases z : a ≤ x
        · right
          rw [h, Int.max_eq_right z]; exact List.mem_cons_self ..
        · left
          rw [h]; omega
      · exact .inr (List.mem_cons_of_mem _ h)
    · rcases List.mem_cons.mp hy with rfl | hy
      · omega
      · exact h3 y hy
theorem max_deg (f : List Tm) : bestD PySem.W.maxD [.list ((-1 :: f.map fun t => t.1.sum).map PyData.int)] = some (.int (degZ f)) := by
  obtain ⟨m, hm, h1, h2⟩ := max_ints (x := -1) (xs := f.map fun t => t.1.sum)
  obtain ⟨g1, g2, g3⟩ := foldl_max (f.map fun t => t.1.sum) (-1)
  have : m = degZ f := by
    unfold degZ
    have a : m ≤ (f.map fun t => t.1.sum).foldl max (-1) := by
      rcases List.mem_cons.mp h1 with h | h
      · omega
      · exact g3 m h
    have b : (f.map fun t => t.1.sum).foldl max (-1) ≤ m := by
      rcases g1 with h | h
      · rw [h]; exact h2 _ (List.mem_cons_self ..)
      · exact h2 _ (List.mem_cons_of_mem _ h)
    omega
  rw [hm, this]
theorem sums_list (f : List Tm) : (f.map fun t => PyData.int t.1.sum) = (f.map fun t => t.1.sum).map PyData.int := by rw [List.map_map]; rfl
theorem ldegree_spec {f : List Tm} (hl : f.length ≤ 1000) : Wp (g__law_degree [.dat (polyD f)]) fun r _ => r = .dat (.int (degZ f)) := by
  refine (wp_gOf (by rfl)).mpr ?_
  unfold m__law_degree
  refine i_ret (i_b (i_cons (i_op (i_fz (i_lst (i_cons (i_un (i_c (i_ofO negD_int (i_nil ⟨by simp, _, rfl, ?_⟩))))))))))
  refine i_fz (i_comp (i_it (i_var (d := polyD f) (by rfl) ⟨_, rfl, by simp; omega, ?_⟩)))
  refine wp_compA tmD f (fun t => .int t.1.sum) (fun t ht => ⟨_, rfl, ?_⟩) ?_
  · exact i_b (i_cons (i_var (d := tI t.1) (by rfl) (i_nil (i_ofO (sumD_int t.1) ⟨rfl, rfl⟩))))
  rw [sums_list]
  refine ⟨_, rfl, i_ofO (d := .list ((-1 :: f.map fun t => t.1.sum).map PyData.int)) ?_ (i_nil (i_ofO (max_deg f) rfl))⟩
  rw [catL_ok (by simp; omega), List.map_cons]; rfl
theorem degree_spec {f : List Tm} (hl : f.length ≤ 1000) : Wp (g_degree [.dat (polyD f)]) fun r _ => r = .dat (.int (degZ f)) := by
  refine (wp_gOf (by rfl)).mpr ?_
  unfold m_degree
  refine i_ret (i_b (i_cons (i_fz (i_lst (i_cons (i_un (i_c (i_ofO negD_int ?_))))))))
  refine i_star (i_fz (i_comp (i_it (i_var (d := polyD f) (by rfl) ⟨_, rfl, by simp; omega, ?_⟩))))
  refine wp_compA tmD f (fun t => .int t.1.sum) (fun t ht => ⟨_, rfl, ?_⟩) ?_
  · exact i_b (i_cons (i_var (d := tI t.1) (by rfl) (i_nil (i_ofO (sumD_int t.1) ⟨rfl, rfl⟩))))
  rw [sums_list]
  refine ⟨_, rfl, _, rfl, i_nil ⟨by simp; omega, _, rfl, ?_⟩⟩
  refine i_nil (i_ofO (d := .int (degZ f)) ?_ rfl)
  have := max_deg f
  rw [List.map_cons] at this
  simpa using this
def unitI (n a : Nat) : List Int := (List.range n).map fun i => if i = a then 1 else 0
def unitP (n a : Nat) : D := .tuple [.tuple [tI (unitI n a), .int 1]]
theorem units (n a : Nat) : ((List.range n).map fun i : Nat => PyData.int (if i = a then 1 else 0)) = (unitI n a).map PyData.int := by unfold unitI; rw [List.map_map]; rfl
theorem unknown_spec {p : Int} {n a : Nat} (hn : n ≤ 100) : Wp (g_unknown [.dat (.int p), .dat (.int (n : Nat)), .dat (.int (a : Nat))]) fun r _ => r = .dat (unitP n a) := by
  refine (wp_gOf (by rfl)).mpr ?_
  unfold m_unknown
  have hr : rg1 [.int (n : Nat)] = some (rng 0 n) := rg1_int (inR_of (by omega) (by omega))
  refine i_ret (i_tup (i_cons (i_tup (i_cons (i_b (i_cons (i_fz (i_comp (i_itO (i_cons (i_var (d := .int (n : Nat)) (by rfl) (i_nil ⟨_, hr, by rw [rng_len]; omega, ?_⟩))))))))))))
  refine wp_compA (fun i : Nat => PyData.int (0 + (i : Nat))) (List.range n) (fun i => .int (if i = a then 1 else 0)) (fun i hi => ⟨_, rfl, ?_⟩) ?_
  · rw [Int.zero_add]
    refine i_ifE (i_tst (i_op (i_var (d := .int (i : Nat)) (by rfl) (i_var (d := .int (a : Nat)) (by rfl) (i_ofO eqX_int ⟨_, rfl, ?_⟩)))))
    by_cases z : i = a
    · exact ite_t (decide_eq_true (by omega)) (i_c ⟨by rw [if_pos z], rfl⟩)
    · exact ite_f (decide_eq_false (by omega)) (i_c ⟨by rw [if_neg z], rfl⟩)
  rw [units]
  exact ⟨_, rfl, i_nil (i_ofO (d := tI (unitI n a)) rfl (i_cons (i_c (i_nil ⟨by simp, i_nil ⟨by simp, rfl⟩⟩))))⟩
theorem zeros_spec {p : Int} {n m : Nat} (hn : n ≤ 100) (hm : m ≤ 100) : Wp (g_zero_unknowns [.dat (.int p), .dat (.int (n : Nat)), .dat (.int (m : Nat))]) fun r _ => r = .dat (.tuple ((List.range m).map (unitP n))) := by
  refine (wp_gOf (by rfl)).mpr ?_
  unfold m_zero_unknowns
  have hr : rg1 [.int (m : Nat)] = some (rng 0 m) := rg1_int (inR_of (by omega) (by omega))
  refine i_ret (i_b (i_cons (i_fz (i_comp (i_itO (i_cons (i_var (d := .int (m : Nat)) (by rfl) (i_nil ⟨_, hr, by rw [rng_len]; omega, ?_⟩))))))))
  refine wp_compA (fun i : Nat => PyData.int (0 + (i : Nat))) (List.range m) (unitP n) (fun i hi => ⟨_, rfl, ?_⟩) ?_
  · rw [Int.zero_add]
    refine i_fz (i_call (i_cons (i_var (d := .int p) (by rfl) (i_cons (i_var (d := .int (n : Nat)) (by rfl) (i_cons (i_var (d := .int (i : Nat)) (by rfl) (i_nil ((unknown_spec hn).mono fun r e h => ?_)))))))))
    subst h
    exact ⟨_, rfl, rfl, rfl⟩
  exact ⟨_, rfl, i_nil (i_ofO rfl rfl)⟩
def prodP (p : Int) : List Int → List Int → Int
  | k :: ks, x :: xs => powZ p x k.toNat * prodP p ks xs
  | _, _ => 1
def wFac (p : Int) (ks xs : List Int) (v : Int) (j : Nat) : Int := v * prodP p (ks.take j) (xs.take j)
theorem prodP_snoc (p : Int) : ∀ (ks xs : List Int) (k x : Int), ks.length = xs.length → prodP p (ks ++ [k]) (xs ++ [x]) = prodP p ks xs * powZ p x k.toNat
  | [], [], k, x, _ => by simp [prodP]
  | [], _ :: _, _, _, h => by cases h
  | _ :: _, [], _, _, h => by cases h
  | a :: ks, b :: xs, k, x, h => by
    show powZ p b a.toNat * prodP p (ks ++ [k]) (xs ++ [x]) = powZ p b a.toNat * prodP p ks xs * powZ p x k.toNat
    rw [prodP_snoc p ks xs k x (by simpa using h), Int.mul_assoc]
theorem prodP_bounds {p : Int} (hp : 2 ≤ p) (hp2 : p ≤ 5) : ∀ (ks xs : List Int), 0 ≤ prodP p ks xs ∧ prodP p ks xs ≤ 5 ^ ks.length
  | [], _ => by simp [prodP]
  | a :: l, [] => by
    have : (0 : Int) < 5 ^ (a :: l).length := Int.pow_pos (by decide)
    exact ⟨by simp [prodP], by simp only [prodP]; exact Int.add_one_le_of_lt this⟩
  | k :: ks, x :: xs => by
    obtain ⟨h1, h2⟩ := prodP_bounds hp hp2 ks xs
    obtain ⟨h3, h4⟩ := powZ_bounds (x := x) hp k.toNat
    show 0 ≤ powZ p x k.toNat * prodP p ks xs ∧ powZ p x k.toNat * prodP p ks xs ≤ 5 ^ (ks.length + 1)
    refine ⟨Int.mul_nonneg h3 h1, ?_⟩
    rw [Int.pow_succ, Int.mul_comm (5 ^ ks.length) 5]
    exact Int.mul_le_mul (by omega) h2 h1 (by decide)
def worthZ (p : Int) (f : List Tm) (pt : List Int) : Int := f.foldl (fun total t => (total + t.2 * prodP p t.1 pt) % p) 0
theorem worthZ_snoc (p : Int) (f : List Tm) (t : Tm) (pt : List Int) : worthZ p (f ++ [t]) pt = (worthZ p f pt + t.2 * prodP p t.1 pt) % p := by
  unfold worthZ; rw [List.foldl_append]; rfl
theorem take_snoc {α : Type} {l : List α} {j : Nat} {x : α} (h : l[j]? = some x) : l.take (j + 1) = l.take j ++ [x] := by rw [List.take_succ, h]; rfl
theorem worth_spec {p m : Int} {n : Nat} {f : List Tm} {pt : List Int} (hp : 2 ≤ p) (hp2 : p ≤ 5) (hn : n ≤ 5) (hm : m ≤ 100) (hf : PolyOk p n m f) (hl : f.length ≤ 1000) (h1 : pt.length = n) (h2 : ∀ x ∈ pt, 0 ≤ x ∧ x < p) : Wp (g__law_worth [.dat (.int p), .dat (polyD f), .dat (tI pt)]) fun r _ => r = .dat (.int (worthZ p f pt)) := by
  refine (wp_gOf (by rfl)).mpr ?_
  unfold m__law_worth
  refine i_seq (i_asg (i_c ?_))
  refine i_seq (i_for (i_it (i_var (d := polyD f) (by rfl) ⟨_, rfl, ?_⟩)))
  refine wp_forN (fun j e => ∃ x4 x5 x6 x7, e = [.dat (.int p), .dat (polyD f), .dat (tI pt), .dat (.int (worthZ p (f.take j) pt)), x4, x5, x6, x7]) ⟨.un, .un, .un, .un, rfl⟩ (fun j y e hx hi => ?_) fun e hi => ?_
  · obtain ⟨x4, x5, x6, x7, rfl⟩ := hi
    rw [List.getElem?_map] at hx
    obtain ⟨t, ht, rfl⟩ := Option.map_eq_some_iff.mp hx
    obtain ⟨t1, t2, t3, t4⟩ := hf t (List.mem_of_getElem? ht)
    refine ⟨_, rfl, ?_⟩
    unfold b2__law_worth
    refine i_seq (i_for (i_itO (i_cons (i_var (d := tI t.1) (by rfl) (i_nil ⟨_, rfl, ?_⟩)))))
    refine wp_forN (fun k e => ∃ x6 x7, e = [.dat (.int p), .dat (polyD f), .dat (tI pt), .dat (.int (worthZ p (f.take j) pt)), .dat (tI t.1), .dat (.int (t.2 * prodP p (t.1.take k) (pt.take k))), x6, x7]) ⟨x6, x7, by simp [prodP]⟩ (fun k y e hx hi => ?_) fun e hi => ?_
    · obtain ⟨x6, x7, rfl⟩ := hi
      obtain ⟨z, hz, rfl⟩ := enum_get hx
      rw [List.getElem?_map] at hz
      obtain ⟨w, hw, rfl⟩ := Option.map_eq_some_iff.mp hz
      have hk : k < t.1.length := (List.getElem?_eq_some_iff.mp hw).1
      have hkp : k < pt.length := by omega
      have hpt : pt[k]? = some pt[k] := List.getElem?_eq_getElem hkp
      have hxp : (pt.map PyData.int)[k]? = some (.int pt[k]) := by rw [List.getElem?_map, hpt]; rfl
      have hx2 := h2 pt[k] (List.getElem_mem hkp)
      have hw2 := t2 w (List.mem_of_getElem? hw)
      obtain ⟨q, hq⟩ : ∃ q : Nat, w = (q : Int) := ⟨w.toNat, by omega⟩
      subst hq
      obtain ⟨b1, b2⟩ := prodP_bounds hp hp2 (t.1.take k) (pt.take k)
      obtain ⟨b3, b4⟩ := powZ_bounds (x := pt[k]) hp q
      have b5 : (5 : Int) ^ (t.1.take k).length ≤ 3125 := by
        have : (t.1.take k).length ≤ 5 := by rw [List.length_take]; omega
        have h2 : (5 : Nat) ^ (t.1.take k).length ≤ 5 ^ 5 := Nat.pow_le_pow_right (by decide) this
        exact_mod_cast h2
      have b6 : 0 ≤ t.2 * prodP p (t.1.take k) (pt.take k) := Int.mul_nonneg (by omega) b1
      have b7 : t.2 * prodP p (t.1.take k) (pt.take k) ≤ 5 * 3125 := Int.mul_le_mul (by omega) (by omega) b1 (by decide)
      refine ⟨_, rfl, ?_⟩
      unfold b1__law_worth
      refine i_asg (i_op (i_var (d := .int (t.2 * prodP p (t.1.take k) (pt.take k))) (by rfl) (i_fz (i_call (i_cons (i_var (d := .int p) (by rfl) (i_cons (i_op (i_var (d := tI pt) (by rfl) (i_var (d := .int (k : Nat)) (by rfl) (i_ofO (ixT hxp) (i_cons (i_var (d := .int (q : Nat)) (by rfl) (i_nil ((power_spec (k := q) hp (by omega) hx2.1 hx2.2 (by omega)).mono fun r e h => ?_)))))))))))))))
      subst h
      refine ⟨_, rfl, i_ofO (mulX_int (mulD_ok (by omega) (by omega))) ⟨rfl, .dat (.int (k : Nat)), .dat (.int (q : Nat)), ?_⟩⟩
      rw [take_snoc hw, take_snoc hpt, prodP_snoc _ _ _ _ _ (by rw [List.length_take, List.length_take]; omega), Int.toNat_natCast, ← Int.mul_assoc]; rfl
    · obtain ⟨x6, x7, rfl⟩ := hi
      have el : (enumD (t.1.map PyData.int)).length = t.1.length := by unfold enumD; simp
      rw [el, show t.1.take t.1.length = t.1 from List.take_length, show pt.take t.1.length = pt from List.take_of_length_le (by omega)]
      refine i_asg (i_fz (i_call (i_cons (i_var (d := .int p) (by rfl) (i_cons (i_op (i_var (d := .int (worthZ p (f.take j) pt)) (by rfl) (i_var (d := .int (t.2 * prodP p t.1 pt)) (by rfl) (i_ofO addD_int (i_nil ((lelement_spec hp).mono fun r e h => ?_)))))))))))
      subst h
      refine ⟨_, rfl, rfl, .dat (tI t.1), .dat (.int (t.2 * prodP p t.1 pt)), x6, x7, ?_⟩
      rw [take_snoc ht, worthZ_snoc]; rfl
  · obtain ⟨x4, x5, x6, x7, rfl⟩ := hi
    rw [List.length_map, List.take_length]
    exact i_retO (i_mv (d := .int (worthZ p f pt)) (by rfl) rfl)
def cong (p a b : Int) : Prop := p ∣ a - b
theorem cong.refl (p a : Int) : cong p a a := ⟨0, by omega⟩
theorem cong.symm {p a b : Int} (h : cong p a b) : cong p b a := by
  obtain ⟨c, hc⟩ := h
  exact ⟨-c, by rw [Int.mul_neg, ← hc]; omega⟩
theorem cong.trans {p a b c : Int} (h : cong p a b) (h' : cong p b c) : cong p a c := by
  obtain ⟨x, hx⟩ := h
  obtain ⟨y, hy⟩ := h'
  exact ⟨x + y, by rw [Int.mul_add, ← hx, ← hy]; omega⟩
theorem cong.add {p a b c d : Int} (h : cong p a b) (h' : cong p c d) : cong p (a + c) (b + d) := by
  obtain ⟨x, hx⟩ := h
  obtain ⟨y, hy⟩ := h'
  exact ⟨x + y, by rw [Int.mul_add, ← hx, ← hy]; omega⟩
theorem cong.mul {p a b c d : Int} (h : cong p a b) (h' : cong p c d) : cong p (a * c) (b * d) := by
  obtain ⟨x, hx⟩ := h
  obtain ⟨y, hy⟩ := h'
  refine ⟨x * c + b * y, ?_⟩
  have e : a * c - b * d = (a - b) * c + b * (c - d) := by rw [Int.sub_mul, Int.mul_sub]; omega
  rw [e, hx, hy, Int.mul_add, Int.mul_assoc, Int.mul_left_comm b p y]
theorem cong.emod (p a : Int) : cong p (a % p) a := ⟨-(a / p), by have := Int.emod_add_mul_ediv a p; rw [Int.mul_neg]; omega⟩
theorem cong.eq {p a b : Int} (h : cong p a b) : a % p = b % p := Int.emod_eq_emod_iff_emod_sub_eq_zero.mpr (Int.emod_eq_zero_of_dvd h)
theorem cong.sum {α : Type} {p : Int} {f g : α → Int} : ∀ {xs : List α}, (∀ x ∈ xs, cong p (f x) (g x)) → cong p (xs.map f).sum (xs.map g).sum
  | [], _ => cong.refl _ _
  | x :: xs, h => by
    rw [List.map_cons, List.map_cons, List.sum_cons, List.sum_cons]
    exact (h x (List.mem_cons_self ..)).add (cong.sum fun y hy => h y (List.mem_cons_of_mem _ hy))
theorem worth_cong (p : Int) (pt : List Int) : ∀ (f : List Tm), cong p (worthZ p f pt) (f.map fun t => t.2 * prodP p t.1 pt).sum := by
  have g : ∀ (f : List Tm) (a b : Int), cong p a b → cong p (f.foldl (fun total t => (total + t.2 * prodP p t.1 pt) % p) a) (b + (f.map fun t => t.2 * prodP p t.1 pt).sum) := by
    intro f
    induction f with
    | nil => intro a b h; simpa using h
    | cons t f ih =>
      intro a b h
      rw [List.foldl_cons, List.map_cons, List.sum_cons, ← Int.add_assoc]
      exact ih _ _ ((cong.emod p _).trans (h.add (cong.refl _ _)))
  intro f
  have := g f 0 0 (cong.refl _ _)
  rwa [Int.zero_add] at this
theorem all_mul {x : D} {n : Nat} (hn : n ≤ 1000) : mulX (.tuple [x]) (.int (n : Nat)) = some (.tuple (List.replicate n x)) := by
  show oOr mulD (oOr repT repL) _ _ = _
  unfold oOr
  have e1 : mulD (.tuple [x]) (.int (n : Nat)) = none := rfl
  rw [e1]
  dsimp only
  have e2 : repT (.tuple [x]) (.int (n : Nat)) = some (.tuple (List.replicate n x)) := by
    show (if (decide (-(2 ^ 62) < (n : Int)) && decide ((n : Int) ≤ 1000) && decide ([x].length ≤ 1000)) = true then some (PyData.tuple (List.replicate (n : Int).toNat [x]).flatten) else none) = _
    have e3 : ∀ k : Nat, (List.replicate k [x]).flatten = List.replicate k x := fun k => by
      induction k with
      | zero => rfl
      | succ k ih => rw [List.replicate_succ, List.flatten_cons, ih, List.replicate_succ]; rfl
    rw [if_pos (by simp; omega), Int.toNat_natCast, e3]
  rw [e2]
def upTo (p : Int) : List Int := (List.range p.toNat).map fun x : Nat => (x : Int)
theorem upTo_rng (p : Int) : rng 0 p.toNat = (upTo p).map PyData.int := by
  unfold rng upTo
  rw [List.map_map]
  refine List.map_congr_left fun i _ => ?_
  show PyData.int (0 + (i : Int)) = PyData.int (i : Int)
  rw [Int.zero_add]
theorem lr_up {p : Int} (hp : 2 ≤ p) (hp2 : p ≤ 101) : lr [.int p] = some ((upTo p).map PyData.int) := by
  show (if (inR p && decide (p.toNat ≤ 16777216)) = true then some (rng 0 p.toNat) else none) = _
  rw [if_pos (by rw [inR_of (by omega) (by omega)]; simp; omega), upTo_rng]
theorem every_spec {p : Int} {n : Nat} {e : Env'} {V : D → Env' → Prop} {f g : M D} (hp : 2 ≤ p) (hp2 : p ≤ 101) (hn : n ≤ 100) (hf : Wp (f e) fun d e' => d = .int p ∧ e' = e) (hg : Wp (g e) fun d e' => d = .int (n : Nat) ∧ e' = e) (q : V (.tuple ((List.replicate n (upTo p)).map tI)) e) : Wp (mOp mulX (mTup (mCons (mFz (mL1 lr slT f)) mNil)) g e) V := by
  obtain ⟨d, e1, h1, rfl, rfl⟩ := hf.ex
  have h2 : Wp (mL1 lr slT f e1) fun r e' => r = .dat (tI (upTo p)) ∧ e' = e1 := by
    unfold mL1
    rw [h1]
    show Wp (match lr [.int p] with | some ys => _ | none => _) _
    rw [lr_up hp hp2]
    exact wp_ok.mpr ⟨rfl, rfl⟩
  refine i_op (i_tup (i_cons (i_fz (h2.mono fun r e' h => ?_))))
  obtain ⟨rfl, rfl⟩ := h
  refine ⟨_, rfl, i_nil ⟨by simp, hg.mono fun d e h => ?_⟩⟩
  obtain ⟨rfl, rfl⟩ := h
  refine i_ofO (all_mul (by omega)) ?_
  rw [← List.map_replicate]
  exact q
end K36
namespace K36
open PySem PySem.Spec L2 Lp
/-! ### worths, as sums of terms -/
def toPT (t : Tm) : AF.PT := (t.1.map Int.toNat, t.2)
def mon (k : List Int) (pt : List Int) : Int := AF.mono (k.map Int.toNat) pt
def evF (f : List Tm) (pt : List Int) : Int := (f.map fun t => t.2 * mon t.1 pt).sum
theorem evF_af (f : List Tm) (pt : List Int) : AF.ev (f.map toPT) pt = evF f pt := by
  unfold AF.ev evF
  rw [List.map_map]; rfl
theorem evF_append (f g : List Tm) (pt : List Int) : evF (f ++ g) pt = evF f pt + evF g pt := by unfold evF; rw [List.map_append, List.sum_append]
theorem evF_cons (t : Tm) (f : List Tm) (pt : List Int) : evF (t :: f) pt = t.2 * mon t.1 pt + evF f pt := by unfold evF; rw [List.map_cons, List.sum_cons]
theorem powZ_cong (p x : Int) : ∀ k : Nat, cong p (powZ p x k) (x ^ k)
  | 0 => by
    show cong p 1 (x ^ 0)
    rw [Int.pow_zero]; exact cong.refl _ _
  | k + 1 => by
    rw [Int.pow_succ]
    exact (cong.emod p _).trans ((powZ_cong p x k).mul (cong.refl _ _))
theorem prodP_cong (p : Int) : ∀ (ks pt : List Int), cong p (prodP p ks pt) (mon ks pt)
  | [], pt => by cases pt <;> exact cong.refl _ _
  | k :: ks, [] => cong.refl _ _
  | k :: ks, x :: pt => (powZ_cong p x k.toNat).mul (prodP_cong p ks pt)
theorem worth_ev (p : Int) (f : List Tm) (pt : List Int) : cong p (worthZ p f pt) (evF f pt) := by
  refine (worth_cong p pt f).trans (cong.sum fun t ht => ?_)
  exact (cong.refl _ _).mul (prodP_cong p t.1 pt)
theorem worthZ_range {p : Int} (hp : 2 ≤ p) (f : List Tm) (pt : List Int) : 0 ≤ worthZ p f pt ∧ worthZ p f pt < p := by
  have g : ∀ (f : List Tm) (a : Int), 0 ≤ a ∧ a < p → 0 ≤ f.foldl (fun total t => (total + t.2 * prodP p t.1 pt) % p) a ∧ f.foldl (fun total t => (total + t.2 * prodP p t.1 pt) % p) a < p := by
    intro f
    induction f with
    | nil => intro a h; exact h
    | cons t f ih => intro a _; exact ih _ ⟨Int.emod_nonneg _ (by omega), Int.emod_lt_of_pos _ (by omega)⟩
  exact g f 0 (by omega)
theorem worthZ_eq {p : Int} (hp : 2 ≤ p) (f : List Tm) (pt : List Int) : worthZ p f pt = evF f pt % p := by
  have h1 := (worth_ev p f pt).eq
  obtain ⟨h2, h3⟩ := worthZ_range hp f pt
  rwa [Int.emod_eq_of_lt h2 h3] at h1
/-! ### tables -/
theorem valZ_cons (q : Tm) (kv : Tab) (k : List Int) : valZ (q :: kv) k = if q.1 = k then q.2 else valZ kv k := by
  unfold valZ
  rw [List.find?_cons]
  by_cases z : q.1 = k
  · rw [if_pos z, decide_eq_true z]; rfl
  · rw [if_neg z, decide_eq_false z]
theorem valZ_none {kv : Tab} {k : List Int} (h : k ∉ kv.map (·.1)) : valZ kv k = 0 := by
  unfold valZ
  have : kv.find? (fun q => decide (q.1 = k)) = none := List.find?_eq_none.mpr fun q hq e => h (List.mem_map.mpr ⟨q, hq, of_decide_eq_true e⟩)
  rw [this]; rfl
theorem repl_id {k : List Int} {x : Int} : ∀ {kv : Tab}, k ∉ kv.map (·.1) → kv.map (fun q => if q.1 = k then (q.1, x) else q) = kv
  | [], _ => rfl
  | q :: kv, h => by
    rw [List.map_cons, List.mem_cons, not_or] at h
    rw [List.map_cons, if_neg (fun e => h.1 e.symm), repl_id h.2]
theorem evF_repl {k : List Int} {x : Int} (pt : List Int) : ∀ {kv : Tab}, (kv.map (·.1)).Nodup → k ∈ kv.map (·.1) → evF (kv.map fun q => if q.1 = k then (q.1, x) else q) pt = evF kv pt + (x - valZ kv k) * mon k pt
  | [], _, h => by cases h
  | q :: kv, nd, h => by
    rw [List.map_cons, List.nodup_cons] at nd
    rw [List.map_cons, valZ_cons]
    by_cases z : q.1 = k
    · rw [if_pos z, if_pos z, repl_id (by rw [← z]; exact nd.1), evF_cons, evF_cons]
      show x * mon q.1 pt + evF kv pt = q.2 * mon q.1 pt + evF kv pt + (x - q.2) * mon k pt
      rw [z, Int.sub_mul]; omega
    · rw [if_neg z, if_neg z, evF_cons, evF_cons, evF_repl pt nd.2 (by
        rcases List.mem_cons.mp h with e | e
        · exact absurd e.symm z
        · exact e)]
      omega
theorem evF_put (kv : Tab) (k : List Int) (c : Int) (pt : List Int) (nd : (kv.map (·.1)).Nodup) : evF (putZ kv k (valZ kv k + c)) pt = evF kv pt + c * mon k pt := by
  unfold putZ
  by_cases z : k ∈ kv.map (·.1)
  · rw [if_pos z, evF_repl pt nd z]
    have : valZ kv k + c - valZ kv k = c := by omega
    rw [this]
  · rw [if_neg z, evF_append, valZ_none z, evF_cons]
    show evF kv pt + ((0 + c) * mon k pt + evF [] pt) = _
    rw [Int.zero_add]
    show _ + (_ + 0) = _
    omega
theorem put_nodup {kv : Tab} {k : List Int} {x : Int} (nd : (kv.map (·.1)).Nodup) : ((putZ kv k x).map (·.1)).Nodup := by
  unfold putZ
  by_cases z : k ∈ kv.map (·.1)
  · rw [if_pos z]
    have : (kv.map fun q => if q.1 = k then (q.1, x) else q).map (·.1) = kv.map (·.1) := by
      rw [List.map_map]
      refine List.map_congr_left fun q _ => ?_
      simp only [Function.comp]
      split <;> rfl
    rw [this]; exact nd
  · rw [if_neg z, List.map_append]
    refine List.nodup_append.mpr ⟨nd, by simp, fun a ha b hb e => ?_⟩
    have hb : b = k := by simpa using hb
    rw [← hb, ← e] at z
    exact z ha
theorem evF_keys {pt : List Int} : ∀ {kv : Tab}, (kv.map (·.1)).Nodup → evF kv pt = ((kv.map (·.1)).map fun k => valZ kv k * mon k pt).sum := by
  have g : ∀ (kv kv0 : Tab), (∀ q ∈ kv, valZ kv0 q.1 = q.2) → evF kv pt = ((kv.map (·.1)).map fun k => valZ kv0 k * mon k pt).sum := by
    intro kv kv0 h
    unfold evF
    rw [List.map_map]
    congr 1
    refine List.map_congr_left fun q hq => ?_
    simp only [Function.comp]
    rw [h q hq]
  have v : ∀ (kv : Tab), (kv.map (·.1)).Nodup → ∀ q ∈ kv, valZ kv q.1 = q.2 := by
    intro kv
    induction kv with
    | nil => intro _ q hq; cases hq
    | cons r kv ih =>
      intro nd q hq
      rw [List.map_cons, List.nodup_cons] at nd
      rw [valZ_cons]
      rcases List.mem_cons.mp hq with rfl | hq
      · rw [if_pos rfl]
      · rw [if_neg (fun e => nd.1 (by rw [e]; exact List.mem_map_of_mem hq)), ih nd.2 q hq]
  exact fun {kv} nd => g kv kv (v kv nd)
theorem tidy_ev {p : Int} {kv : Tab} (nd : (kv.map (·.1)).Nodup) (pt : List Int) : cong p (evF (tidyZ p kv) pt) (evF kv pt) := by
  rw [evF_keys nd]
  have hs : ((kv.map (·.1)).map fun k => valZ kv k * mon k pt).sum = ((sortI (kv.map (·.1))).map fun k => valZ kv k * mon k pt).sum := (sum_perm ((sortI_perm _).map _)).symm
  rw [hs]
  unfold tidyZ
  generalize sortI (kv.map (·.1)) = l
  induction l with
  | nil => exact cong.refl _ _
  | cons k l ih =>
    rw [List.filter_cons, List.map_cons, List.sum_cons]
    by_cases z : valZ kv k % p = 0
    · rw [if_neg (by rw [decide_eq_true z]; decide)]
      have h0 : cong p 0 (valZ kv k * mon k pt) := cong.symm (by
        have := (cong.symm (cong.emod p (valZ kv k))).mul (cong.refl p (mon k pt))
        rwa [z, Int.zero_mul] at this)
      have := h0.add ih
      rwa [Int.zero_add] at this
    · rw [if_pos (by rw [decide_eq_false z]; rfl), List.map_cons, evF_cons]
      exact ((cong.emod p _).mul (cong.refl _ _)).add ih
def plusT (ts : List Tm) : Tab := ts.foldl (fun kv t => putZ kv t.1 (valZ kv t.1 + t.2)) []
theorem plusT_snoc (ts : List Tm) (t : Tm) : plusT (ts ++ [t]) = putZ (plusT ts) t.1 (valZ (plusT ts) t.1 + t.2) := by unfold plusT; rw [List.foldl_append]; rfl
theorem plusT_nodup (ts : List Tm) : ((plusT ts).map (·.1)).Nodup := by
  have g : ∀ (ts : List Tm) (kv : Tab), (kv.map (·.1)).Nodup → ((ts.foldl (fun kv t => putZ kv t.1 (valZ kv t.1 + t.2)) kv).map (·.1)).Nodup := by
    intro ts
    induction ts with
    | nil => intro kv h; exact h
    | cons t ts ih => intro kv h; exact ih _ (put_nodup h)
  exact g ts [] (by simp)
theorem plusT_ev (ts : List Tm) (pt : List Int) : evF (plusT ts) pt = evF ts pt := by
  have g : ∀ (ts : List Tm) (kv : Tab), (kv.map (·.1)).Nodup → evF (ts.foldl (fun kv t => putZ kv t.1 (valZ kv t.1 + t.2)) kv) pt = evF kv pt + evF ts pt := by
    intro ts
    induction ts with
    | nil =>
      intro kv h
      show evF kv pt = evF kv pt + 0
      omega
    | cons t ts ih =>
      intro kv h
      rw [List.foldl_cons, ih _ (put_nodup h), evF_put kv t.1 t.2 pt h, evF_cons]; omega
  have := g ts [] (by simp)
  rw [show plusT ts = ts.foldl (fun kv t => putZ kv t.1 (valZ kv t.1 + t.2)) [] from rfl, this]
  show 0 + _ = _
  omega
theorem plusT_ok {n : Nat} {m : Int} {ts : List Tm} (h : ∀ t ∈ ts, t.1.length = n ∧ ∀ x ∈ t.1, 0 ≤ x ∧ x ≤ m) : TabOk n m (plusT ts) := by
  have g : ∀ (ts : List Tm) (kv : Tab), (∀ t ∈ ts, t.1.length = n ∧ ∀ x ∈ t.1, 0 ≤ x ∧ x ≤ m) → TabOk n m kv → TabOk n m (ts.foldl (fun kv t => putZ kv t.1 (valZ kv t.1 + t.2)) kv) := by
    intro ts
    induction ts with
    | nil => intro kv _ h; exact h
    | cons t ts ih => intro kv h1 h2; exact ih _ (fun u hu => h1 u (List.mem_cons_of_mem _ hu)) (put_ok h2 (h1 t (List.mem_cons_self ..)))
  exact g ts [] h tabOk_nil
theorem plusT_len (ts : List Tm) : (plusT ts).length ≤ ts.length := by
  have g : ∀ (ts : List Tm) (kv : Tab), (ts.foldl (fun kv t => putZ kv t.1 (valZ kv t.1 + t.2)) kv).length ≤ kv.length + ts.length := by
    intro ts
    induction ts with
    | nil => intro kv; exact Nat.le_refl _
    | cons t ts ih =>
      intro kv
      have h1 := ih (putZ kv t.1 (valZ kv t.1 + t.2))
      have h2 := put_len kv t.1 (valZ kv t.1 + t.2)
      rw [List.foldl_cons, List.length_cons]; omega
  have := g ts []
  rw [List.length_nil, Nat.zero_add] at this
  exact this
/-! ### how many common zeros -/
abbrev Pm (p : Int) : Prop := p = 2 ∨ p = 3 ∨ p = 5
theorem pm_dom {p : Int} (h : Pm p) : AF.Dom p := by rcases h with rfl | rfl | rfl; exact AF.dom2; exact AF.dom3; exact AF.dom5
theorem pm_fer {p : Int} (h : Pm p) : AF.Fer p (p - 1).toNat := by rcases h with rfl | rfl | rfl; exact AF.fer2; exact AF.fer3; exact AF.fer5
def zeroB (p : Int) (es : List (List Tm)) (c : List Int) : Bool := es.all fun e => decide (evF e c % p = 0)
def zerosZ (p : Int) (es : List (List Tm)) (rows : List (List Int)) : List (List Int) := (choicesZ rows).filter (zeroB p es)
def dgN (f : List Tm) : Nat := (degZ f).toNat
def loadZ (p : Int) (es : List (List Tm)) : Int := (p - 1) * (es.map fun e => max 0 (degZ e)).sum
theorem deg_le {f : List Tm} {t : Tm} (h : t ∈ f) : t.1.sum ≤ degZ f := (foldl_max _ _).2.2 _ (List.mem_map_of_mem (f := fun t : Tm => t.1.sum) h)
theorem sum_toNat : ∀ {ks : List Int}, (∀ k ∈ ks, 0 ≤ k) → ((ks.map Int.toNat).sum : Int) = ks.sum
  | [], _ => rfl
  | k :: ks, h => by
    have h1 := h k (List.mem_cons_self ..)
    rw [List.map_cons, List.sum_cons, List.sum_cons, ← sum_toNat fun x hx => h x (List.mem_cons_of_mem _ hx)]
    omega
theorem ok_pt {p m : Int} {n : Nat} {f : List Tm} (h : PolyOk p n m f) : AF.Ok n (dgN f) (f.map toPT) := fun u hu => by
  obtain ⟨t, ht, rfl⟩ := List.mem_map.mp hu
  obtain ⟨h1, h2, _⟩ := h t ht
  refine ⟨by show (t.1.map Int.toNat).length = n; rw [List.length_map, h1], ?_⟩
  have a := sum_toNat fun k hk => (h2 k hk).1
  have b := deg_le ht
  show (t.1.map Int.toNat).sum ≤ (degZ f).toNat
  omega
theorem grid_eq (rows : List (List Int)) : choicesZ rows = AF.grid rows := by
  have g : ∀ (rows acc : List (List Int)), rows.foldl (fun found row => found.flatMap (grow1 row)) acc = acc.flatMap fun c => (AF.grid rows).map (c ++ ·) := by
    intro rows
    induction rows with
    | nil =>
      intro acc
      show acc = acc.flatMap fun c => [c ++ []]
      induction acc with
      | nil => rfl
      | cons c acc ih => rw [List.flatMap_cons, ← ih]; simp
    | cons S R ih =>
      intro acc
      rw [List.foldl_cons, ih, List.flatMap_assoc]
      congr 1
      funext c
      show ((S.map fun o => c ++ [o]).flatMap fun c => (AF.grid R).map (c ++ ·)) = (S.flatMap fun x => (AF.grid R).map (x :: ·)).map (c ++ ·)
      rw [List.flatMap_map, List.map_flatMap]
      congr 1
      funext x
      rw [List.map_map]
      refine List.map_congr_left fun y _ => ?_
      simp
  have := g rows [[]]
  show rows.foldl (fun found row => found.flatMap (grow1 row)) [[]] = _
  rw [this]
  simp
theorem steps_mono {L : List P2} {lens : List Int} (hL : ∀ p ∈ L, lens[p.2]? = some p.1 ∧ 1 ≤ p.1) (nd : (L.map (·.2)).Nodup) (h1 : ∀ n ∈ lens, 1 ≤ n) (i : Nat) : ∀ k : Nat, prodZ (steps L lens (i + k)) ≤ prodZ (steps L lens i)
  | 0 => Int.le_refl _
  | k + 1 => by
    refine Int.le_trans ?_ (steps_mono hL nd h1 i k)
    have hb : BoxOf lens (steps L lens (i + k)) := by
      rw [steps_greedy L lens hL nd]
      exact box_greedy _ _ _ (by omega) hL (box_self h1)
    have hs : steps L lens (i + (k + 1)) = stepF L (steps L lens (i + k)) := rfl
    rw [hs]
    refine prod_step (fun n hn => ?_) fun p hp => ?_
    · obtain ⟨j, hj, rfl⟩ := List.getElem_of_mem hn
      have := (hb.2 j (by rw [← hb.1]; exact hj)).1
      rwa [List.getD_eq_getElem?_getD, List.getElem?_eq_getElem hj] at this
    · rw [hb.1]
      exact (List.getElem?_eq_some_iff.mp (hL p hp).1).1
theorem greedy_mono {lens : List Int} (h1 : ∀ n ∈ lens, 1 ≤ n) {d e : Int} (h0 : 0 ≤ d) (hde : d ≤ e) : prodZ (greedy (ord lens) e lens) ≤ prodZ (greedy (ord lens) d lens) := by
  obtain ⟨i, rfl⟩ := Int.eq_ofNat_of_zero_le h0
  obtain ⟨k, hk⟩ := Int.eq_ofNat_of_zero_le (show 0 ≤ e - (i : Int) by omega)
  have he : e = ((i + k : Nat) : Int) := by omega
  have := steps_mono (ord_ok h1) (ord_nd lens) h1 i k
  rwa [steps_greedy _ _ (ord_ok h1) (ord_nd lens), steps_greedy _ _ (ord_ok h1) (ord_nd lens), ← he] at this
theorem chk4 : ((up 2).all fun a => (up 2).all fun b => (up 2).all fun c => (up 2).all fun d => (up a.toNat).all fun x => (up b.toNat).all fun y => (up c.toNat).all fun z => (up d.toNat).all fun w => chk [a, b, c, d] [x, y, z, w]) = true := by decide +kernel
theorem chk5 : ((up 2).all fun a => (up 2).all fun b => (up 2).all fun c => (up 2).all fun d => (up 2).all fun e => (up a.toNat).all fun x => (up b.toNat).all fun y => (up c.toNat).all fun z => (up d.toNat).all fun w => (up e.toNat).all fun v => chk [a, b, c, d, e] [x, y, z, w, v]) = true := by decide +kernel
def SmallR (lens : List Int) : Prop := (∀ n ∈ lens, 1 ≤ n) ∧ 1 ≤ lens.length ∧ ((lens.length < 4 ∧ ∀ n ∈ lens, n ≤ 5) ∨ (lens.length ≤ 5 ∧ ∀ n ∈ lens, n ≤ 2))
theorem least_le {lens x : List Int} {d : Int} (hs : SmallR lens) (hx : BoxOf lens x) (hd : 0 ≤ d) (hd2 : lens.sum ≤ x.sum + d) : prodZ (greedy (ord lens) d lens) ≤ prodZ x := by
  obtain ⟨h1, hn1, hc⟩ := hs
  have e0 : 0 ≤ lens.sum - x.sum := by
    obtain ⟨hl, hb⟩ := hx
    have g : ∀ (lens x : List Int), x.length = lens.length → (∀ i, i < lens.length → x.getD i 0 ≤ lens.getD i 0) → x.sum ≤ lens.sum := by
      intro lens
      induction lens with
      | nil => intro x hl _; rw [List.length_eq_zero_iff.mp hl]; exact Int.le_refl _
      | cons a lens ih =>
        intro x hl hb
        cases x with
        | nil => cases hl
        | cons b x =>
          have h1 := hb 0 (by simp)
          have h2 := ih x (by simpa using hl) fun i hi => hb (i + 1) (by simpa using hi)
          have h1' : b ≤ a := h1
          rw [List.sum_cons, List.sum_cons]; omega
    have := g lens x hl fun i hi => (hb i hi).2
    omega
  refine Int.le_trans (greedy_mono h1 e0 (by omega : lens.sum - x.sum ≤ d)) ?_
  rw [ord_isort]
  obtain ⟨hl, hb⟩ := hx
  have upx : ∀ (a y : Int), 1 ≤ y → y ≤ a → y ∈ up a.toNat := fun a y h h' => mem_up h (by omega)
  rcases hc with ⟨hn, h5⟩ | ⟨hn, h2⟩
  · have up5 : ∀ a ∈ lens, a ∈ up 5 := fun a ha => mem_up (h1 a ha) (h5 a ha)
    match lens, x, hl, hb, up5, hn, hn1 with
    | [a], [x], _, hb, up5, _, _ =>
      have := List.all_eq_true.mp (List.all_eq_true.mp chk1 a (up5 a (by simp))) x (upx a x (hb 0 (by simp)).1 (hb 0 (by simp)).2)
      exact of_decide_eq_true this
    | [a, b], [x, y], _, hb, up5, _, _ =>
      have := List.all_eq_true.mp (List.all_eq_true.mp (List.all_eq_true.mp (List.all_eq_true.mp chk2 a (up5 a (by simp))) b (up5 b (by simp))) x (upx a x (hb 0 (by simp)).1 (hb 0 (by simp)).2)) y (upx b y (hb 1 (by simp)).1 (hb 1 (by simp)).2)
      exact of_decide_eq_true this
    | [a, b, c], [x, y, z], _, hb, up5, _, _ =>
      have := List.all_eq_true.mp (List.all_eq_true.mp (List.all_eq_true.mp (List.all_eq_true.mp (List.all_eq_true.mp (List.all_eq_true.mp chk3 a (up5 a (by simp))) b (up5 b (by simp))) c (up5 c (by simp))) x (upx a x (hb 0 (by simp)).1 (hb 0 (by simp)).2)) y (upx b y (hb 1 (by simp)).1 (hb 1 (by simp)).2)) z (upx c z (hb 2 (by simp)).1 (hb 2 (by simp)).2)
      exact of_decide_eq_true this
  · have up2 : ∀ a ∈ lens, a ∈ up 2 := fun a ha => mem_up (h1 a ha) (h2 a ha)
    have up5 : ∀ a ∈ lens, a ∈ up 5 := fun a ha => mem_up (h1 a ha) (by have := h2 a ha; omega)
    match lens, x, hl, hb, up2, up5, hn, hn1 with
    | [a], [x], _, hb, _, up5, _, _ =>
      have := List.all_eq_true.mp (List.all_eq_true.mp chk1 a (up5 a (by simp))) x (upx a x (hb 0 (by simp)).1 (hb 0 (by simp)).2)
      exact of_decide_eq_true this
    | [a, b], [x, y], _, hb, _, up5, _, _ =>
      have := List.all_eq_true.mp (List.all_eq_true.mp (List.all_eq_true.mp (List.all_eq_true.mp chk2 a (up5 a (by simp))) b (up5 b (by simp))) x (upx a x (hb 0 (by simp)).1 (hb 0 (by simp)).2)) y (upx b y (hb 1 (by simp)).1 (hb 1 (by simp)).2)
      exact of_decide_eq_true this
    | [a, b, c], [x, y, z], _, hb, _, up5, _, _ =>
      have := List.all_eq_true.mp (List.all_eq_true.mp (List.all_eq_true.mp (List.all_eq_true.mp (List.all_eq_true.mp (List.all_eq_true.mp chk3 a (up5 a (by simp))) b (up5 b (by simp))) c (up5 c (by simp))) x (upx a x (hb 0 (by simp)).1 (hb 0 (by simp)).2)) y (upx b y (hb 1 (by simp)).1 (hb 1 (by simp)).2)) z (upx c z (hb 2 (by simp)).1 (hb 2 (by simp)).2)
      exact of_decide_eq_true this
    | [a, b, c, d], [x, y, z, w], _, hb, up2, _, _, _ =>
      have := List.all_eq_true.mp (List.all_eq_true.mp (List.all_eq_true.mp (List.all_eq_true.mp (List.all_eq_true.mp (List.all_eq_true.mp (List.all_eq_true.mp (List.all_eq_true.mp chk4 a (up2 a (by simp))) b (up2 b (by simp))) c (up2 c (by simp))) d (up2 d (by simp))) x (upx a x (hb 0 (by simp)).1 (hb 0 (by simp)).2)) y (upx b y (hb 1 (by simp)).1 (hb 1 (by simp)).2)) z (upx c z (hb 2 (by simp)).1 (hb 2 (by simp)).2)) w (upx d w (hb 3 (by simp)).1 (hb 3 (by simp)).2)
      exact of_decide_eq_true this
    | [a, b, c, d, e], [x, y, z, w, v], _, hb, up2, _, _, _ =>
      have := List.all_eq_true.mp (List.all_eq_true.mp (List.all_eq_true.mp (List.all_eq_true.mp (List.all_eq_true.mp (List.all_eq_true.mp (List.all_eq_true.mp (List.all_eq_true.mp (List.all_eq_true.mp (List.all_eq_true.mp chk5 a (up2 a (by simp))) b (up2 b (by simp))) c (up2 c (by simp))) d (up2 d (by simp))) e (up2 e (by simp))) x (upx a x (hb 0 (by simp)).1 (hb 0 (by simp)).2)) y (upx b y (hb 1 (by simp)).1 (hb 1 (by simp)).2)) z (upx c z (hb 2 (by simp)).1 (hb 2 (by simp)).2)) w (upx d w (hb 3 (by simp)).1 (hb 3 (by simp)).2)) v (upx e v (hb 4 (by simp)).1 (hb 4 (by simp)).2)
      exact of_decide_eq_true this
def lensOf (rows : List (List Int)) : List Int := rows.map fun r => (r.length : Int)
theorem fit_box : ∀ {x : List Nat} {rows : List (List Int)}, AF.Fit x rows → BoxOf (lensOf rows) (x.map fun (a : Nat) => (a : Int))
  | [], [], _ => ⟨rfl, fun i hi => by simp [lensOf] at hi⟩
  | [], _ :: _, h => h.elim
  | _ :: _, [], h => h.elim
  | a :: x, S :: R, h => by
    obtain ⟨hl, hb⟩ := fit_box h.2
    refine ⟨by simpa [lensOf] using hl, fun i hi => ?_⟩
    cases i with
    | zero =>
      have h1 := h.1
      show 1 ≤ (a : Int) ∧ (a : Int) ≤ (S.length : Int)
      omega
    | succ i => exact hb i (by simpa [lensOf] using hi)
theorem prodN_Z : ∀ x : List Nat, ((AF.prodN x : Nat) : Int) = prodZ (x.map fun (a : Nat) => (a : Int))
  | [] => rfl
  | a :: x => by
    rw [List.map_cons, prodZ_cons, ← prodN_Z x]
    show ((a * AF.prodN x : Nat) : Int) = _
    rw [Int.natCast_mul]
theorem sumN_Z : ∀ x : List Nat, ((x.sum : Nat) : Int) = (x.map fun (a : Nat) => (a : Int)).sum
  | [] => rfl
  | a :: x => by rw [List.map_cons, List.sum_cons, List.sum_cons, ← sumN_Z x]; omega
theorem many_zeros {p m : Int} {n : Nat} {rows : List (List Int)} {es : List (List Tm)} (hp : Pm p) (hlen : rows.length = n) (hs : SmallR (lensOf rows)) (hd : ∀ S ∈ rows, AF.Distinct p S) (hpt : ∀ c ∈ choicesZ rows, c.length = n) (he : ∀ e ∈ es, PolyOk p n m e) (hz : ∃ c ∈ choicesZ rows, zeroB p es c = true) :
    prodZ (greedy (ord (lensOf rows)) (loadZ p es) (lensOf rows)) ≤ ((zerosZ p es rows).length : Int) := by
  have hok : ∀ f ∈ es.map (·.map toPT), AF.Ok n (f.foldl (fun d t => max d t.1.sum) 0) f := fun f hf t ht => by
    obtain ⟨e, he', rfl⟩ := List.mem_map.mp hf
    refine ⟨(ok_pt (he e he') t ht).1, ?_⟩
    have g : ∀ (f : List AF.PT) (d : Nat), d ≤ f.foldl (fun d t => max d t.1.sum) d ∧ ∀ t ∈ f, t.1.sum ≤ f.foldl (fun d t => max d t.1.sum) d := by
      intro f
      induction f with
      | nil => intro d; exact ⟨Nat.le_refl _, by simp⟩
      | cons u f ih =>
        intro d
        obtain ⟨a, b⟩ := ih (max d u.1.sum)
        rw [List.foldl_cons]
        refine ⟨by omega, fun t ht => ?_⟩
        rcases List.mem_cons.mp ht with rfl | ht
        · omega
        · exact b t ht
    exact (g _ 0).2 t ht
  have hnz : ∀ c ∈ choicesZ rows, (¬ p ∣ AF.ev (AF.pall n (p - 1).toNat (es.map (·.map toPT))) c) ↔ zeroB p es c = true := fun c hc => by
    rw [AF.pall_ev (pm_dom hp) (pm_fer hp) (hpt c hc) _ hok]
    unfold zeroB
    rw [List.all_eq_true]
    constructor
    · intro h e he'
      have := h _ (List.mem_map_of_mem (f := fun l : List Tm => l.map toPT) he')
      rw [evF_af] at this
      exact decide_eq_true (Int.emod_eq_zero_of_dvd this)
    · intro h f hf
      obtain ⟨e, he', rfl⟩ := List.mem_map.mp hf
      rw [evF_af]
      exact Int.dvd_of_emod_eq_zero (of_decide_eq_true (h e he'))
  have hdeg : ∀ e ∈ es, (e.map toPT).foldl (fun d t => max d t.1.sum) 0 ≤ dgN e := fun e he' => by
    have g : ∀ (f : List AF.PT) (d B : Nat), d ≤ B → (∀ t ∈ f, t.1.sum ≤ B) → f.foldl (fun d t => max d t.1.sum) d ≤ B := by
      intro f
      induction f with
      | nil => intro d B h _; exact h
      | cons u f ih =>
        intro d B h1 h2
        have := h2 u (List.mem_cons_self ..)
        exact ih _ B (by show max d u.1.sum ≤ B; omega) fun t ht => h2 t (List.mem_cons_of_mem _ ht)
    exact g _ 0 _ (Nat.zero_le _) fun t ht => (ok_pt (he e he') t ht).2
  obtain ⟨c0, hc0, hz0⟩ := hz
  obtain ⟨x, f1, f2, f3⟩ := AF.main (pm_dom hp) rows (AF.pall n (p - 1).toNat (es.map (·.map toPT))) ((p - 1).toNat * ((es.map (·.map toPT)).map fun f => f.foldl (fun d t => max d t.1.sum) 0).sum) hd (fun t ht => by rw [hlen]; exact AF.pall_ok _ hok t ht) ⟨c0, by rw [← grid_eq]; exact hc0, (hnz c0 hc0).mpr hz0⟩
  have hcnt : AF.cnt (fun pt => !decide (p ∣ AF.ev (AF.pall n (p - 1).toNat (es.map (·.map toPT))) pt)) (AF.grid rows) = (zerosZ p es rows).length := by
    rw [← grid_eq]
    unfold AF.cnt zerosZ
    congr 1
    refine List.filter_congr fun c hc => ?_
    rw [Bool.eq_iff_iff, Bool.not_eq_true', decide_eq_false_iff_not]
    exact hnz c hc
  rw [hcnt] at f3
  have hload : (((p - 1).toNat * ((es.map (·.map toPT)).map fun f => f.foldl (fun d t => max d t.1.sum) 0).sum : Nat) : Int) ≤ loadZ p es := by
    unfold loadZ
    have hp1 : 0 ≤ p - 1 := by rcases hp with rfl | rfl | rfl <;> decide
    rw [Int.natCast_mul, Int.toNat_of_nonneg hp1]
    refine Int.mul_le_mul_of_nonneg_left ?_ hp1
    rw [List.map_map]
    have g : ∀ l : List (List Tm), (∀ e ∈ l, e ∈ es) → (((l.map ((fun f => f.foldl (fun d t => max d t.1.sum) 0) ∘ (·.map toPT))).sum : Nat) : Int) ≤ (l.map fun e => max 0 (degZ e)).sum := by
      intro l
      induction l with
      | nil => intro _; exact Int.le_refl _
      | cons e l ih =>
        intro h
        rw [List.map_cons, List.sum_cons, List.map_cons, List.sum_cons]
        have h1 := ih fun u hu => h u (List.mem_cons_of_mem _ hu)
        have h2 := hdeg e (h e (List.mem_cons_self ..))
        unfold dgN at h2
        have h3 : (((fun f : List AF.PT => f.foldl (fun d t => max d t.1.sum) 0) ∘ fun l : List Tm => l.map toPT) e : Nat) = (e.map toPT).foldl (fun d t => max d t.1.sum) 0 := rfl
        rw [h3]
        omega
    exact g es fun e he => he
  have hl0 : 0 ≤ loadZ p es := Int.le_trans (Int.natCast_nonneg _) hload
  have hsum : (lensOf rows).sum = (((rows.map List.length).sum : Nat) : Int) := by
    rw [sumN_Z, List.map_map]; rfl
  refine Int.le_trans (least_le hs (fit_box f1) hl0 ?_) (by rw [← prodN_Z]; exact_mod_cast f3)
  rw [← sumN_Z x, hsum]
  omega
end K36
namespace K36
open PySem PySem.Spec L2 Lp
theorem choicesT_b1 {t0 t1 : Sl} {row c : List Int} {later : List (List Int)} (hc : c.length ≤ 1000) (hr : later.length + row.length ≤ 16777216) : Wp (b1__law_choices [t0, t1, .dat (tI row), .dat (.list (later.map tI)), .dat (tI c), .un]) fun k e => k = .next ∧
    e = [t0, t1, .dat (tI row), .dat (.list ((later ++ grow1 row c).map tI)), .dat (tI c), .un] := by
  have hcat : addD (.list (later.map tI)) (.list ((grow1 row c).map tI)) = some (.list ((later ++ grow1 row c).map tI)) := catL_map (by unfold grow1; rw [List.length_map]; exact hr)
  unfold b1__law_choices
  refine i_asg (i_op (i_var (by rfl) (i_fz (i_comp (i_it (i_var (d := tI row) (by rfl) ⟨_, rfl, by rw [List.length_map]; omega, ?_⟩))))))
  refine wp_compA PyData.int row (fun o => tI (c ++ [o])) (fun o ho => ⟨_, rfl, ?_⟩) ?_
  · exact i_op (i_var (d := tI c) (by rfl) (i_tup (i_cons (i_var (by rfl) (i_nil ⟨Nat.le_of_ble_eq_true rfl, i_ofO (catT_int hc) ⟨rfl, rfl⟩⟩)))))
  · refine ⟨_, rfl, i_ofO (d := .list ((later ++ grow1 row c).map tI)) ?_ ⟨rfl, rfl⟩⟩
    have : row.map (fun o => tI (c ++ [o])) = (grow1 row c).map tI := by unfold grow1; rw [List.map_map]; rfl
    rw [this]
    exact hcat
theorem choicesT_b2 {t0 : Sl} {row : List Int} {x3 x4 : Sl} {found : List (List Int)} (hc : ∀ c ∈ found, c.length ≤ 1000) (hr : found.length * row.length ≤ 1000000) (hr2 : row.length ≤ 1000) : Wp (b2__law_choices [t0, .dat (.list (found.map tI)), .dat (tI row), x3, x4, .un]) fun k e => k = .next ∧
    ∃ x3 x4, e = [t0, .dat (.list ((found.flatMap (grow1 row)).map tI)), .dat (tI row), x3, x4, .un] := by
  unfold b2__law_choices
  refine i_seq (i_asg (i_fz (i_lst (i_nil ⟨by decide, _, rfl, ?_⟩))))
  refine i_seq (i_for (i_it (i_var (d := .list (found.map tI)) (by rfl) ⟨_, rfl, ?_⟩)))
  refine wp_forN (fun j e => ∃ x4, e = [t0, .dat (.list (found.map tI)), .dat (tI row), .dat (.list (((found.take j).flatMap (grow1 row)).map tI)), x4, .un]) ⟨_, rfl⟩ (fun j x e hx hi => ?_) fun e hi => ?_
  · obtain ⟨x4, rfl⟩ := hi
    rw [List.getElem?_map] at hx
    obtain ⟨c, hcj, rfl⟩ := Option.map_eq_some_iff.mp hx
    have hj : j < found.length := (List.getElem?_eq_some_iff.mp hcj).1
    have e1 : (found.take (j + 1)).flatMap (grow1 row) = (found.take j).flatMap (grow1 row) ++ grow1 row c := by
      rw [List.take_succ, hcj, List.flatMap_append]; simp
    refine ⟨_, rfl, (choicesT_b1 (hc c (List.mem_of_getElem? hcj)) ?_).mono fun k e h => ?_⟩
    · rw [flat_len, List.length_take, Nat.min_eq_left (Nat.le_of_lt hj)]
      have : j * row.length ≤ found.length * row.length := Nat.mul_le_mul_right _ (Nat.le_of_lt hj)
      omega
    · obtain ⟨rfl, rfl⟩ := h
      rw [e1]
      exact ⟨rfl, _, rfl⟩
  · obtain ⟨x4, rfl⟩ := hi
    rw [List.length_map, List.take_length]
    exact i_asg (i_var (by rfl) ⟨rfl, _, _, rfl⟩)
theorem choicesT_spec {rows : List (List Int)} (hn : rows.length ≤ 1000) (hb : ∀ k row, rows[k]? = some row → (choicesZ (rows.take k)).length * row.length ≤ 1000000 ∧ row.length ≤ 1000) : Wp (g__law_choices [.dat (.tuple (rows.map tI))]) fun r _ => r = .dat (.list ((choicesZ rows).map tI)) := by
  refine (wp_gOf (by rfl)).mpr ?_
  unfold m__law_choices
  refine i_seq (i_asg (i_fz (i_lst (i_cons (i_tup (i_nil ⟨by decide, i_nil ⟨by decide, _, rfl, ?_⟩⟩))))))
  refine i_seq (i_for (i_it (i_var (d := .tuple (rows.map tI)) (by rfl) ⟨_, rfl, ?_⟩)))
  refine wp_forN (fun k e => ∃ x2 x3 x4, e = [.dat (.tuple (rows.map tI)), .dat (.list ((choicesZ (rows.take k)).map tI)), x2, x3, x4, .un]) ⟨_, _, _, rfl⟩ (fun k x e hx hi => ?_) fun e hi => ?_
  · obtain ⟨x2, x3, x4, rfl⟩ := hi
    rw [List.getElem?_map] at hx
    obtain ⟨row, hrow, rfl⟩ := Option.map_eq_some_iff.mp hx
    obtain ⟨b1, b2⟩ := hb k row hrow
    refine ⟨_, rfl, (choicesT_b2 (fun c hc => ?_) b1 b2).mono fun c e h => ?_⟩
    · have := choices_len (rows.take k) [[]] 0 (by simp) c hc
      rw [this, List.length_take]; omega
    · obtain ⟨rfl, x3, x4, rfl⟩ := h
      rw [choices_succ hrow]
      exact ⟨rfl, _, _, _, rfl⟩
  · obtain ⟨x2, x3, x4, rfl⟩ := hi
    rw [List.length_map, List.take_length]
    exact i_retO (i_mv rfl rfl)
def RowG (p : Int) (row : List Int) : Prop := 1 ≤ row.length ∧ (row.length : Int) ≤ p ∧ row.Nodup ∧ ∀ x ∈ row, 0 ≤ x ∧ x < p
theorem upTo_nodup (p : Int) : (upTo p).Nodup := by
  unfold upTo List.Nodup
  rw [List.pairwise_map]
  exact List.nodup_range.imp fun h e => h (by exact_mod_cast e)
theorem lists_spec {c : List Int} {b p : Int} {n : Nat} (hd : DealOk c b) (hp : Pm p) (hn : n ≤ 12) : Wp (g__law_lists [.deal c b, .dat (.int p), .dat (.int (n : Nat)), .dat (.int 3)]) fun r e => ∃ (rows : List (List Int)) (c' : List Int) (b' : Int), r = .dat (.tuple (rows.map tI)) ∧ rows.length = n ∧ (∀ row ∈ rows, RowG p row) ∧ e.getD 0 .un = .deal c' b' ∧ DealOk c' b' := by
  refine (wp_gOf (by rfl)).mpr ?_
  unfold m__law_lists
  have hrn : rg1 [.int (n : Nat)] = some (rng 0 n) := rg1_int (inR_of (by omega) (by omega))
  refine i_seq (i_asgO (i_lst (i_nil ⟨by simp, ?_⟩)))
  refine i_seq (i_for (i_itO (i_cons (i_var (d := .int (n : Nat)) (by rfl) (i_nil ⟨_, hrn, ?_⟩)))))
  refine wp_forN (fun j e => ∃ (c : List Int) (b : Int) (rows : List (List Int)) (x5 x6 : Sl), DealOk c b ∧ rows.length = j ∧ (∀ row ∈ rows, RowG p row) ∧ e = [.deal c b, .dat (.int p), .dat (.int (n : Nat)), .dat (.int 3), .own (rows.map tI), x5, x6]) ⟨c, b, [], _, _, hd, rfl, by simp, rfl⟩ (fun j y e hx hi => ?_) fun e hi => ?_
  · obtain ⟨c, b, rows, x5, x6, hd, hlen, hok, rfl⟩ := hi
    have hj : j < n := by
      have := (List.getElem?_eq_some_iff.mp hx).1
      rwa [rng_len] at this
    refine ⟨_, rfl, ?_⟩
    unfold b1__law_lists
    have hp' : 2 ≤ p ∧ p ≤ 5 := by rcases hp with rfl | rfl | rfl <;> decide
    have hS : ∃ S : List Int, (S.length : Int) = p ∧ S.Nodup ∧ (∀ x ∈ S, 0 ≤ x ∧ x < p) ∧ Wp ((mIfE (mTst (mOp eqX (mVar 1) (mC (.int 0)))) (mFz (mL2 lr slL (mUn negD (mC (.int 5))) (mC (.int 6)))) (mFz (mL1 lr slL (mVar 1)))) [.deal c b, .dat (.int p), .dat (.int (n : Nat)), .dat (.int 3), .own (rows.map tI), .dat y, x6]) fun d e' => d = lI S ∧ e' = [.deal c b, .dat (.int p), .dat (.int (n : Nat)), .dat (.int 3), .own (rows.map tI), .dat y, x6] := by
      refine ⟨upTo p, by unfold upTo; rw [List.length_map, List.length_range]; omega, upTo_nodup p, fun x hx => ?_, ?_⟩
      · unfold upTo at hx
        obtain ⟨i, hi, rfl⟩ := List.mem_map.mp hx
        have := List.mem_range.mp hi
        omega
      · refine i_ifE (i_tst (i_op (i_var (d := .int p) (by rfl) (i_c (i_ofO eqX_int ⟨_, rfl, ite_f (decide_eq_false (by omega)) ?_⟩)))))
        refine i_fz ?_
        unfold mL1
        show Wp (match lr [.int p] with | some ys => Out.ok (slL ys) [.deal c b, .dat (.int p), .dat (.int (n : Nat)), .dat (.int 3), .own (rows.map tI), .dat y, x6] | none => .stuck) _
        rw [lr_up hp'.1 (by omega)]
        exact wp_ok.mpr ⟨_, rfl, rfl, rfl⟩
    obtain ⟨S, s1, s2, s3, hW⟩ := hS
    refine i_seq (i_asg (i_fz (i_callIO (c := c) (b := b) (by rfl) (i_cons (hW.mono fun d e h => ?_)))))
    obtain ⟨rfl, rfl⟩ := h
    refine i_nil ⟨c, b, rfl, (mixed_spec (w := 301) (k := 0) hd (fun x hx => ?_) (by decide) (by rw [List.length_map]; omega)).mono fun r e h => ?_⟩
    · obtain ⟨i, hi, rfl⟩ := List.mem_map.mp hx
      have := s3 i hi
      exact tame_int (by omega)
    obtain ⟨es, c, b, rfl, hperm, he, hd⟩ := h
    obtain ⟨zs, hz, rfl⟩ := perm_map_inv hperm
    rw [he]
    refine ⟨_, rfl, ?_⟩
    show Wp (mApp _ _ [.deal c b, .dat (.int p), .dat (.int (n : Nat)), .dat (.int 3), .own (rows.map tI), .dat y, .dat (lI zs)]) _
    have hzl : zs.length = S.length := hz.length_eq
    have hlz : lenD [lI zs] = some (.int (zs.length : Nat)) := by
      show some (PyData.int ((zs.map PyData.int).length : Nat)) = _
      rw [List.length_map]
    refine i_app (ds0 := rows.map tI) (by rfl) (i_b (i_cons (i_fz (i_bO (i_cons (i_fz (i_sliceL (i_var (d := lI zs) (by rfl) ⟨_, rfl, i_noP (i_part (i_op (i_c ?_)))⟩))))))))
    refine i_fz (wp_any (i := 0) (k := min 3 (zs.length : Int)) (by rfl) hd (i_b (i_cons (i_var (d := .int 3) (by rfl) (i_cons (i_b (i_cons (i_var (d := lI zs) (by rfl) (i_nil (i_ofO hlz (i_nil (i_ofO min2_int ⟨rfl, rfl⟩))))))))))) (by omega) (by omega) fun a c b a0 a1 hd => ⟨_, rfl, i_ofO addD_int ⟨_, rfl, _, rfl, i_nil ?_⟩⟩)
    rw [cutL_take (by omega), ← List.map_take]
    refine ⟨_, sort_int (by rw [List.length_take]; omega), _, rfl, i_nil (i_ofO (d := tI (sortZ (zs.take (1 + a).toNat))) rfl ⟨rows.map tI, rfl, by rw [List.length_map]; omega, rfl, c, b, rows ++ [sortZ (zs.take (1 + a).toNat)], .dat y, .dat (lI zs), hd, by rw [List.length_append, hlen]; rfl, fun row hr => ?_, ?_⟩)⟩
    · rcases List.mem_append.mp hr with hr | hr
      · exact hok row hr
      · rw [List.mem_singleton.mp hr]
        have hpz := sortZ_perm (zs.take (1 + a).toNat)
        refine ⟨?_, ?_, hpz.nodup_iff.mpr ((List.take_sublist _ _).nodup (hz.nodup_iff.mpr s2)), fun x hx => s3 x (hz.mem_iff.mp (List.mem_of_mem_take (hpz.mem_iff.mp hx)))⟩
        · rw [hpz.length_eq, List.length_take]; omega
        · rw [hpz.length_eq, List.length_take]; omega
    · rw [List.map_append]; rfl
  · obtain ⟨c, b, rows, x5, x6, hd, hlen, hok, rfl⟩ := hi
    rw [rng_len] at hlen
    refine i_ret (i_b (i_cons (i_varO (ds := rows.map tI) (by rfl) (i_nil (i_ofO (d := .tuple (rows.map tI)) rfl ?_)))))
    exact ⟨rows, c, b, rfl, hlen, hok, rfl, hd⟩
theorem b1_lprod {ns : List Int} {k : Nat} {x : Int} {t y : Sl} (hn : ∀ n ∈ ns, 1 ≤ n ∧ n ≤ 16) (hl : ns.length ≤ 10) (h : ns[k]? = some x) : True := trivial
theorem plist_spec {ns : List Int} (hn : ∀ n ∈ ns, 1 ≤ n ∧ n ≤ 16) (hl : ns.length ≤ 10) : Wp (g__law_product [.dat (.list (ns.map PyData.int))]) fun r _ => r = .dat (.int (prodZ ns)) := by
  refine (wp_gOf (by rfl)).mpr ?_
  unfold m__law_product
  repeat (first
      | (with_reducible (first
        | refine i_seq ?_ | refine i_asg ?_ | refine i_asgO ?_ | refine i_asgT ?_ | refine i_ret ?_ | refine i_retO ?_ | refine i_do ?_ | refine i_if ?_ | refine i_next ?_ | refine i_brk ?_ | refine i_cnt ?_ | refine i_retN ?_
        | refine i_c ?_ | refine i_un ?_ | refine i_op ?_ | refine i_b ?_ | refine i_nil ?_ | refine i_cons ?_ | refine i_tst ?_ | refine i_and ?_ | refine i_or ?_ | refine i_not ?_ | refine i_ofT ?_ | refine i_ifE ?_ | refine i_andV ?_ | refine i_orV ?_ | refine i_notV ?_
        | refine i_isi ?_ | refine i_tup ?_ | refine i_lst ?_ | refine i_bO ?_ | refine i_fz ?_ | refine i_od ?_ | refine i_chain ?_ | refine i_call ?_ | refine i_perm ?_ | refine i_for ?_ | refine i_comp ?_ | refine i_it ?_ | refine i_itO ?_ | refine i_yes ?_))
      | (((with_reducible apply i_var); case hv => rfl))
      | ((with_reducible apply i_ofO); case ho => first | (with_reducible first | exact addD_int | exact subD_int | exact eqX_int | exact neX_int | exact eqX_str | exact neX_str | exact ltD_int | exact leD_int | exact gtD_int | exact geD_int | exact negD_int | exact intD_int | exact absD_int | exact reprD_bool | exact reprD_none) | assumption)
      | (with_reducible refine ⟨_, (by assumption : rg1 _ = some _), ?_⟩) | (with_reducible refine ⟨_, (by assumption : rg2 _ = some _), ?_⟩) | (with_reducible refine ⟨_, rg1_int (by decide), ?_⟩) | (with_reducible refine ⟨_, rg2_int (by decide) (by decide), ?_⟩)
      | (with_reducible refine ⟨_, rfl, ?_⟩)
      | ((with_reducible apply ite_t); case h => first | (with_reducible rfl) | assumption)
      | ((with_reducible apply ite_f); case h => first | (with_reducible rfl) | assumption)
      | ((with_reducible apply And.intro); case left => first | rfl | decide | exact Nat.le_of_ble_eq_true rfl))
  refine wp_forN (fun k e => ∃ x, e = [.dat (.list (ns.map PyData.int)), .dat (.int (prodZ (ns.take k))), x]) ⟨_, rfl⟩ (fun k x e hx hi => ?_) fun e hi => ?_
  · obtain ⟨y, rfl⟩ := hi
    rw [List.getElem?_map] at hx
    obtain ⟨z, hz, rfl⟩ := Option.map_eq_some_iff.mp hx
    exact ⟨_, rfl, (b1_prod hn hl hz).mono fun c e h => ⟨h.1, _, h.2⟩⟩
  · obtain ⟨y, rfl⟩ := hi
    rw [List.length_map, List.take_length]
    repeat (first
        | (with_reducible (first
          | refine i_seq ?_ | refine i_asg ?_ | refine i_asgO ?_ | refine i_asgT ?_ | refine i_ret ?_ | refine i_retO ?_ | refine i_do ?_ | refine i_if ?_ | refine i_next ?_ | refine i_brk ?_ | refine i_cnt ?_ | refine i_retN ?_
          | refine i_c ?_ | refine i_un ?_ | refine i_op ?_ | refine i_b ?_ | refine i_nil ?_ | refine i_cons ?_ | refine i_tst ?_ | refine i_and ?_ | refine i_or ?_ | refine i_not ?_ | refine i_ofT ?_ | refine i_ifE ?_ | refine i_andV ?_ | refine i_orV ?_ | refine i_notV ?_
          | refine i_isi ?_ | refine i_tup ?_ | refine i_lst ?_ | refine i_bO ?_ | refine i_fz ?_ | refine i_od ?_ | refine i_chain ?_ | refine i_call ?_ | refine i_perm ?_ | refine i_for ?_ | refine i_comp ?_ | refine i_it ?_ | refine i_itO ?_ | refine i_yes ?_))
        | (((with_reducible apply i_var); case hv => rfl))
        | ((with_reducible apply i_ofO); case ho => first | (with_reducible first | exact addD_int | exact subD_int | exact eqX_int | exact neX_int | exact eqX_str | exact neX_str | exact ltD_int | exact leD_int | exact gtD_int | exact geD_int | exact negD_int | exact intD_int | exact absD_int | exact reprD_bool | exact reprD_none) | assumption)
        | (with_reducible refine ⟨_, (by assumption : rg1 _ = some _), ?_⟩) | (with_reducible refine ⟨_, (by assumption : rg2 _ = some _), ?_⟩) | (with_reducible refine ⟨_, rg1_int (by decide), ?_⟩) | (with_reducible refine ⟨_, rg2_int (by decide) (by decide), ?_⟩)
        | (with_reducible refine ⟨_, rfl, ?_⟩)
        | ((with_reducible apply ite_t); case h => first | (with_reducible rfl) | assumption)
        | ((with_reducible apply ite_f); case h => first | (with_reducible rfl) | assumption)
        | ((with_reducible apply And.intro); case left => first | rfl | decide | exact Nat.le_of_ble_eq_true rfl))
    exact i_mv rfl rfl

/-! ### sums -/
theorem plus_b1 {p : Int} {one other : D} {ts : List Tm} {t : Tm} {x4 x5 : Sl} (hl : ts.length ≤ 1000) : Wp (b1__law_plus [.dat (.int p), .dat one, .dat other, .dcT (tabD (plusT ts)), .dat (tI t.1), .dat (.int t.2)]) fun r e => r = .next ∧ e = [.dat (.int p), .dat one, .dat other, .dcT (tabD (plusT (ts ++ [t]))), .dat (tI t.1), .dat (.int t.2)] := by
  unfold b1__law_plus
  have hlook : ((lookD (tabD (plusT ts)) t.1).getD (.int 0)) = .int (valZ (plusT ts) t.1) := by
    rw [look_tab]
    unfold valZ
    cases (plusT ts).find? fun q => decide (q.1 = t.1) <;> rfl
  refine i_dputT (n := []) (d := .none) (kvs0 := tabD (plusT ts)) (i_op (i_dgetT (kvs := tabD (plusT ts)) (n := t.1) (z := .int 0) (by rfl) (i_var (d := tI t.1) (by rfl) ⟨rfl, rfl⟩) (i_c ⟨rfl, rfl⟩) ?_))
  rw [hlook]
  refine i_var (d := .int t.2) (by rfl) (i_ofO addD_int ⟨rfl, i_var (d := tI t.1) (by rfl) ⟨tabD (plusT ts), t.1, rfl, rfl, by rw [dct_len]; have := plusT_len ts; omega, rfl, ?_⟩⟩)
  rw [put_tab, plusT_snoc]; rfl
theorem plus_spec {p m : Int} {n : Nat} {one other : List Tm} (hp : 2 ≤ p) (hn : 1 ≤ n) (h1 : PolyOk p n m one) (h2 : PolyOk p n m other) (l1 : one.length ≤ 100) (l2 : other.length ≤ 100) : Wp (g__law_plus [.dat (.int p), .dat (polyD one), .dat (polyD other)]) fun r _ => ∃ g, r = .dat (polyD g) ∧ PolyOk p n m g ∧ g.length ≤ one.length + other.length ∧ ∀ pt, cong p (evF g pt) (evF one pt + evF other pt) := by
  refine (wp_gOf (by rfl)).mpr ?_
  unfold m__law_plus
  have hcat : addD (polyD one) (polyD other) = some (.tuple ((one ++ other).map tmD)) := by
    rw [List.map_append]
    exact catT_ok (by rw [List.length_map, List.length_map]; omega)
  refine i_seq (i_asgO (i_dnewT ?_))
  refine i_seq (i_for (i_it (i_op (i_var (d := polyD one) (by rfl) (i_var (d := polyD other) (by rfl) (i_ofO hcat ⟨_, rfl, ?_⟩))))))
  refine wp_forN (fun j e => ∃ x4 x5, e = [.dat (.int p), .dat (polyD one), .dat (polyD other), .dcT (tabD (plusT ((one ++ other).take j))), x4, x5]) ⟨.un, .un, rfl⟩ (fun j y e hx hi => ?_) fun e hi => ?_
  · obtain ⟨x4, x5, rfl⟩ := hi
    rw [List.getElem?_map] at hx
    obtain ⟨t, ht, rfl⟩ := Option.map_eq_some_iff.mp hx
    refine ⟨_, rfl, (plus_b1 (t := t) (x4 := x4) (x5 := x5) (by rw [List.length_take, List.length_append]; omega)).mono fun r e h => ?_⟩
    obtain ⟨rfl, rfl⟩ := h
    rw [take_snoc ht]
    exact ⟨rfl, _, _, rfl⟩
  · obtain ⟨x4, x5, rfl⟩ := hi
    rw [List.length_map, List.take_length]
    have hok : TabOk n m (plusT (one ++ other)) := plusT_ok fun t ht => by
      rcases List.mem_append.mp ht with h | h
      · exact ⟨(h1 t h).1, (h1 t h).2.1⟩
      · exact ⟨(h2 t h).1, (h2 t h).2.1⟩
    have hlen := plusT_len (one ++ other)
    rw [List.length_append] at hlen
    refine i_retO (i_call (i_cons (i_var (d := .int p) (by rfl) (i_cons (i_varT (kvs := tabD (plusT (one ++ other))) (by rfl) (i_nil ((tidy_spec hp (fun q hq e => ?_) (by omega)).mono fun r e h => ?_)))))))
    · have := (hok q hq).1
      rw [e] at this
      simp at this; omega
    · subst h
      have h3 := tidy_len p (plusT (one ++ other))
      refine ⟨_, rfl, tidy_ok hp hok, by omega, fun pt => ?_⟩
      have := tidy_ev (p := p) (plusT_nodup (one ++ other)) pt
      rwa [plusT_ev, evF_append] at this
/-! ### worths -/
theorem raised_spec {p x : Int} {k : Nat} (hp : 2 ≤ p) (hp2 : p ≤ 101) (x0 : 0 ≤ x) (x1 : x < p) (hk : k ≤ 1000) : Wp (g_raised [.dat (.int p), .dat (.int x), .dat (.int (k : Nat))]) fun r _ => r = .dat (.int (powZ p x k)) := power_spec hp hp2 x0 x1 hk
theorem mon_snoc : ∀ (ks xs : List Int) (k x : Int), ks.length = xs.length → mon (ks ++ [k]) (xs ++ [x]) = mon ks xs * x ^ k.toNat
  | [], [], k, x, _ => by
    show x ^ k.toNat * 1 = 1 * x ^ k.toNat
    omega
  | [], _ :: _, _, _, h => by cases h
  | _ :: _, [], _, _, h => by cases h
  | a :: ks, b :: xs, k, x, h => by
    show b ^ a.toNat * mon (ks ++ [k]) (xs ++ [x]) = b ^ a.toNat * mon ks xs * x ^ k.toNat
    rw [mon_snoc ks xs k x (by simpa using h), Int.mul_assoc]
theorem worthP_spec {p m : Int} {n : Nat} {f : List Tm} {pt : List Int} (hp : 2 ≤ p) (hp2 : p ≤ 5) (hn : n ≤ 5) (hm : m ≤ 100) (hf : PolyOk p n m f) (hl : f.length ≤ 1000) (h1 : pt.length = n) (h2 : ∀ x ∈ pt, 0 ≤ x ∧ x < p) : Wp (g_worth [.dat (.int p), .dat (polyD f), .dat (tI pt)]) fun r _ => r = .dat (.int (worthZ p f pt)) := by
  refine (wp_gOf (by rfl)).mpr ?_
  unfold m_worth
  refine i_seq (i_asg (i_c ?_))
  refine i_seq (i_for (i_it (i_var (d := polyD f) (by rfl) ⟨_, rfl, ?_⟩)))
  refine wp_forN (fun j e => ∃ x4 x5 x6 x7, e = [.dat (.int p), .dat (polyD f), .dat (tI pt), .dat (.int (worthZ p (f.take j) pt)), x4, x5, x6, x7]) ⟨.un, .un, .un, .un, rfl⟩ (fun j y e hx hi => ?_) fun e hi => ?_
  · obtain ⟨x4, x5, x6, x7, rfl⟩ := hi
    rw [List.getElem?_map] at hx
    obtain ⟨t, ht, rfl⟩ := Option.map_eq_some_iff.mp hx
    obtain ⟨t1, t2, t3, t4⟩ := hf t (List.mem_of_getElem? ht)
    refine ⟨_, rfl, ?_⟩
    unfold b2_worth
    have hz : zp2 [tI pt, tI t.1] = some ((pt.zip t.1).map fun q => .tuple [.int q.1, .int q.2]) := by
      show some (zipD (pt.map PyData.int) (t.1.map PyData.int)) = _
      rw [zipD_map]
    refine i_seq (i_for (i_itO (i_cons (i_var (d := tI pt) (by rfl) (i_cons (i_var (d := tI t.1) (by rfl) (i_nil ⟨_, hz, ?_⟩)))))))
    refine wp_forN (fun k e => ∃ x6 x7, e = [.dat (.int p), .dat (polyD f), .dat (tI pt), .dat (.int (worthZ p (f.take j) pt)), .dat (tI t.1), .dat (.int ((t.2 * mon (t.1.take k) (pt.take k)) % p)), x6, x7]) ⟨x6, x7, ?_⟩ (fun k y e hx hi => ?_) fun e hi => ?_
    · have : (t.2 * mon (t.1.take 0) (pt.take 0)) % p = t.2 := by
        show (t.2 * 1) % p = t.2
        rw [Int.mul_one, Int.emod_eq_of_lt (by omega) t4]
      rw [this]; rfl
    · obtain ⟨x6, x7, rfl⟩ := hi
      rw [List.getElem?_map] at hx
      obtain ⟨q, hq, rfl⟩ := Option.map_eq_some_iff.mp hx
      have hk : k < (pt.zip t.1).length := (List.getElem?_eq_some_iff.mp hq).1
      rw [List.length_zip] at hk
      have hkp : k < pt.length := by omega
      have hkt : k < t.1.length := by omega
      have hq2 : q = (pt[k], t.1[k]) := by
        have := (List.getElem?_eq_some_iff.mp hq).2
        rw [List.getElem_zip] at this
        exact this.symm
      subst hq2
      have hx2 := h2 pt[k] (List.getElem_mem hkp)
      have hw2 := t2 t.1[k] (List.getElem_mem hkt)
      refine ⟨_, rfl, ?_⟩
      unfold b1_worth
      have hF0 := Int.emod_nonneg (t.2 * mon (t.1.take k) (pt.take k)) (show p ≠ 0 by omega)
      have hF1 := Int.emod_lt_of_pos (t.2 * mon (t.1.take k) (pt.take k)) (show 0 < p by omega)
      have hrs := raised_spec (p := p) (x := pt[k]) (k := t.1[k].toNat) hp (by omega) hx2.1 hx2.2 (by omega)
      rw [Int.toNat_of_nonneg hw2.1] at hrs
      have hpb := powZ_bounds (x := pt[k]) hp t.1[k].toNat
      refine i_asg (i_fz (i_call (i_cons (i_var (d := .int p) (by rfl) (i_cons (i_op (i_var (d := .int ((t.2 * mon (t.1.take k) (pt.take k)) % p)) (by rfl) (i_fz (i_call (i_cons (i_var (d := .int p) (by rfl) (i_cons (i_var (d := .int pt[k]) (by rfl) (i_cons (i_var (d := .int t.1[k]) (by rfl) (i_nil (hrs.mono fun r e h => ?_)))))))))))))))))
      subst h
      refine ⟨_, rfl, i_ofO (mulX_int (mulD_ok (by omega) (by omega))) (i_nil ((element_spec hp).mono fun r e h => ?_))⟩
      subst h
      refine ⟨_, rfl, rfl, .dat (.int pt[k]), .dat (.int t.1[k]), ?_⟩
      have e1 : ((t.2 * mon (t.1.take k) (pt.take k)) % p * powZ p pt[k] t.1[k].toNat) % p = (t.2 * mon (t.1.take (k + 1)) (pt.take (k + 1))) % p := by
        rw [take_snoc (List.getElem?_eq_getElem hkt), take_snoc (List.getElem?_eq_getElem hkp), mon_snoc _ _ _ _ (by rw [List.length_take, List.length_take]; omega), ← Int.mul_assoc]
        exact ((cong.emod p _).mul (powZ_cong p pt[k] t.1[k].toNat)).eq
      rw [e1]; rfl
    · obtain ⟨x6, x7, rfl⟩ := hi
      have e4 : t.1.take n = t.1 := List.take_of_length_le (by omega)
      have e5 : pt.take n = pt := List.take_of_length_le (by omega)
      rw [List.length_map, List.length_zip, t1, h1, Nat.min_self, e4, e5]
      refine i_asg (i_fz (i_call (i_cons (i_var (d := .int p) (by rfl) (i_cons (i_op (i_var (d := .int (worthZ p (f.take j) pt)) (by rfl) (i_var (d := .int ((t.2 * mon t.1 pt) % p)) (by rfl) (i_ofO addD_int (i_nil ((element_spec hp).mono fun r e h => ?_)))))))))))
      subst h
      refine ⟨_, rfl, rfl, .dat (tI t.1), .dat (.int ((t.2 * mon t.1 pt) % p)), x6, x7, ?_⟩
      have e1 : (worthZ p (f.take j) pt + (t.2 * mon t.1 pt) % p) % p = worthZ p (f.take (j + 1)) pt := by
        rw [take_snoc ht, worthZ_eq hp, worthZ_eq hp, evF_append, evF_cons]
        have := ((cong.emod p (evF (f.take j) pt)).add (cong.emod p (t.2 * mon t.1 pt))).eq
        rw [this]
        show _ = (evF (f.take j) pt + (t.2 * mon t.1 pt + 0)) % p
        rw [Int.add_zero]
      rw [e1]; rfl
  · obtain ⟨x4, x5, x6, x7, rfl⟩ := hi
    rw [List.length_map, List.take_length]
    exact i_retO (i_mv (d := .int (worthZ p f pt)) (by rfl) rfl)
/-! ### choices -/
theorem choices_five : ∀ {rows : List (List Int)}, (∀ r ∈ rows, r.length ≤ 5) → (choicesZ rows).length ≤ 5 ^ rows.length := by
  intro rows
  rw [grid_eq]
  induction rows with
  | nil => intro _; exact Nat.le_refl _
  | cons S R ih =>
    intro h
    have h1 := h S (List.mem_cons_self ..)
    have h2 := ih fun r hr => h r (List.mem_cons_of_mem _ hr)
    have e : (AF.grid (S :: R)).length = S.length * (AF.grid R).length := by
      show (S.flatMap fun x => (AF.grid R).map (x :: ·)).length = _
      induction S with
      | nil => simp
      | cons x S ihS =>
        rw [List.flatMap_cons, List.length_append, List.length_map, ihS (fun r hr => by
          rcases List.mem_cons.mp hr with rfl | hr
          · have := h (x :: r) (List.mem_cons_self ..); simp at this; omega
          · exact h r (List.mem_cons_of_mem _ hr)) (by simp at h1; omega), List.length_cons, Nat.succ_mul]; omega
    rw [e, List.length_cons, Nat.pow_succ, Nat.mul_comm (5 ^ R.length) 5]
    exact Nat.mul_le_mul h1 h2
theorem choices_hb {rows : List (List Int)} (hn : rows.length ≤ 5) (hl : ∀ r ∈ rows, r.length ≤ 5) : ∀ k row, rows[k]? = some row → (choicesZ (rows.take k)).length * row.length ≤ 1000000 ∧ row.length ≤ 1000 := fun k row hk => by
  have h1 := hl row (List.mem_of_getElem? hk)
  have h2 := choices_five (rows := rows.take k) fun r hr => hl r (List.mem_of_mem_take hr)
  have h3 : 5 ^ (rows.take k).length ≤ 5 ^ 5 := Nat.pow_le_pow_right (by decide) (by rw [List.length_take]; omega)
  exact ⟨Nat.le_trans (Nat.mul_le_mul (Nat.le_trans h2 h3) h1) (by decide), by omega⟩
theorem lchoices_spec {rows : List (List Int)} (hn : rows.length ≤ 5) (hl : ∀ r ∈ rows, r.length ≤ 5) : Wp (g__law_choices [.dat (.tuple (rows.map tI))]) fun r _ => r = .dat (.list ((choicesZ rows).map tI)) := choicesT_spec (by omega) (choices_hb hn hl)
theorem len_tI (ks : List Int) : lenD [tI ks] = some (.int (ks.length : Nat)) := by
  show some (PyData.int ((ks.map PyData.int).length : Nat)) = _
  rw [List.length_map]
theorem ccount_spec {rows : List (List Int)} (hn : rows.length ≤ 5) (hl : ∀ r ∈ rows, r.length ≤ 5) : Wp (g_choice_count [.dat (.tuple (rows.map tI))]) fun r _ => ∃ z : Int, r = .dat (.int z) ∧ z ≤ 20000 := by
  refine (wp_gOf (by rfl)).mpr ?_
  unfold m_choice_count
  refine i_seq (i_asg (i_c ?_))
  refine i_seq (i_for (i_it (i_var (d := .tuple (rows.map tI)) (by rfl) ⟨_, rfl, ?_⟩)))
  refine wp_forN (fun j e => ∃ (z : Int) (x2 : Sl), 0 ≤ z ∧ z ≤ 5 ^ j ∧ j ≤ rows.length ∧ e = [.dat (.tuple (rows.map tI)), .dat (.int z), x2]) ⟨1, .un, by decide, by simp, Nat.zero_le _, rfl⟩ (fun j y e hx hi => ?_) fun e hi => ?_
  · obtain ⟨z, x2, z0, z1, hj, rfl⟩ := hi
    rw [List.getElem?_map] at hx
    obtain ⟨row, hrow, rfl⟩ := Option.map_eq_some_iff.mp hx
    have hjl : j < rows.length := (List.getElem?_eq_some_iff.mp hrow).1
    have hr := hl row (List.mem_of_getElem? hrow)
    have h5 : (5 : Int) ^ j ≤ 5 ^ 5 := by
      have : (5 : Nat) ^ j ≤ 5 ^ 5 := Nat.pow_le_pow_right (by decide) (by omega)
      exact_mod_cast this
    refine ⟨_, rfl, ?_⟩
    unfold b1_choice_count
    refine i_asg (i_op (i_var (d := .int z) (by rfl) (i_b (i_cons (i_var (d := tI row) (by rfl) (i_nil (i_ofO (len_tI row) (i_ofO (mulX_int (mulD_ok (by omega) (by omega))) ⟨rfl, z * (row.length : Nat), .dat (tI row), Int.mul_nonneg z0 (by omega), ?_, by omega, rfl⟩))))))))
    rw [Int.pow_succ]
    exact Int.mul_le_mul z1 (by omega) (by omega) (by omega)
  · obtain ⟨z, x2, z0, z1, hj, rfl⟩ := hi
    rw [List.length_map] at z1
    have h5 : (5 : Int) ^ rows.length ≤ 5 ^ 5 := by
      have : (5 : Nat) ^ rows.length ≤ 5 ^ 5 := Nat.pow_le_pow_right (by decide) hn
      exact_mod_cast this
    exact i_retO (i_mv (d := .int z) (by rfl) ⟨z, rfl, by omega⟩)
theorem choicesP_spec {rows : List (List Int)} (hn : rows.length ≤ 5) (hl : ∀ r ∈ rows, r.length ≤ 5) : Wp (g_choices [.dat (.tuple (rows.map tI))]) fun r _ => r = .dat (.tuple ((choicesZ rows).map tI)) := by
  refine (wp_gOf (by rfl)).mpr ?_
  unfold m_choices
  refine i_seq (i_if (i_tst (i_op (i_fz (i_call (i_cons (i_var (d := .tuple (rows.map tI)) (by rfl) (i_nil ((ccount_spec hn hl).mono fun r e h => ?_)))))))))
  obtain ⟨z, rfl, hz⟩ := h
  refine ⟨_, rfl, i_c (i_ofO gtD_int ⟨_, rfl, ite_f (decide_eq_false (by omega)) (i_next ?_)⟩)⟩
  refine i_seq (i_asg (i_fz (i_lst (i_cons (i_tup (i_nil ⟨by simp, i_nil ⟨by simp, _, rfl, ?_⟩⟩))))))
  refine i_seq (i_for (i_it (i_var (d := .tuple (rows.map tI)) (by rfl) ⟨_, rfl, ?_⟩)))
  refine wp_forN (fun j e => ∃ x2, e = [.dat (.tuple (rows.map tI)), .dat (.list ((choicesZ (rows.take j)).map tI)), x2, .un, .un]) ⟨.un, rfl⟩ (fun j y e hx hi => ?_) fun e hi => ?_
  · obtain ⟨x2, rfl⟩ := hi
    rw [List.getElem?_map] at hx
    obtain ⟨row, hrow, rfl⟩ := Option.map_eq_some_iff.mp hx
    have hr := hl row (List.mem_of_getElem? hrow)
    have hc := choices_five (rows := rows.take j) fun r hr => hl r (List.mem_of_mem_take hr)
    have h5 : 5 ^ (rows.take j).length ≤ 5 ^ 5 := Nat.pow_le_pow_right (by decide) (by rw [List.length_take]; omega)
    have h55 : (5 : Nat) ^ 5 = 3125 := by decide
    have hcl : ∀ c ∈ choicesZ (rows.take j), c.length ≤ 5 := fun c hc => by
      have := choices_len (rows.take j) [[]] 0 (by simp) c hc
      rw [this, List.length_take]; omega
    refine ⟨_, rfl, ?_⟩
    unfold b1_choices
    refine i_asg (i_fz (i_comp2 (i_it (i_var (d := .list ((choicesZ (rows.take j)).map tI)) (by rfl) ⟨_, rfl, by rw [List.length_map]; omega, ?_⟩))))
    refine wp_comp2A tI PyData.int (fun _ => row) (fun c o => tI (c ++ [o])) (fun c => [.dat (.tuple (rows.map tI)), .dat (.list ((choicesZ (rows.take j)).map tI)), .dat (tI row), .dat (tI c), .un]) (choicesZ (rows.take j)) [] (fun c hc => ⟨_, rfl, ?_, rfl, fun o ho => ⟨_, rfl, ?_⟩⟩) ?_ ?_
    · exact i_it (i_var (d := tI row) (by rfl) ⟨_, rfl, rfl, rfl⟩)
    · refine i_tup (i_star (i_var (d := tI c) (by rfl) ⟨c.map PyData.int, rfl, i_cons (i_var (d := .int o) (by rfl) (i_nil ⟨by rw [List.length_append, List.length_map]; have := hcl c hc; simp; omega, ?_, rfl⟩))⟩))
      unfold tI
      rw [List.map_append]; rfl
    · have : ((choicesZ (rows.take j)).flatMap fun _ => row).length ≤ 3125 * 5 := by
        have g : ∀ l : List (List Int), (l.flatMap fun _ => row).length = l.length * row.length := by
          intro l
          induction l with
          | nil => simp
          | cons a l ih => rw [List.flatMap_cons, List.length_append, ih, List.length_cons, Nat.succ_mul]; omega
        rw [g]
        exact Nat.mul_le_mul (by omega) hr
      rw [List.length_nil]; omega
    · have e1 : (([] : List D) ++ (choicesZ (rows.take j)).flatMap fun c => row.map fun o => tI (c ++ [o])) = ((choicesZ (rows.take j)).flatMap (grow1 row)).map tI := by
        rw [List.nil_append, List.map_flatMap]
        congr 1
        funext c
        unfold grow1
        rw [List.map_map]; rfl
      rw [e1, ← choices_succ hrow]
      exact ⟨_, rfl, rfl, .dat (tI row), rfl⟩
  · obtain ⟨x2, rfl⟩ := hi
    rw [List.length_map, List.take_length]
    exact i_ret (i_b (i_cons (i_var (d := .list ((choicesZ rows).map tI)) (by rfl) (i_nil (i_ofO (d := .tuple ((choicesZ rows).map tI)) rfl rfl)))))
end K36
namespace K36
open PySem PySem.Spec L2 Lp
/-! ### zeros -/
theorem pm_b {p : Int} (h : Pm p) : 2 ≤ p ∧ p ≤ 5 := by rcases h with rfl | rfl | rfl <;> decide
theorem tame_poly {p m : Int} {n : Nat} {f : List Tm} (hf : PolyOk p n m f) (hp2 : p ≤ 5) (hm : m ≤ 100) (hn : n ≤ 5) : Tame (f.length * (2 * (5 * 302 + 1) + 1)) 3 (polyD f) := tame_tuple (w := 2 * (5 * 302 + 1)) (k := 2) (fun x hx => by
  obtain ⟨t, ht, rfl⟩ := List.mem_map.mp hx
  obtain ⟨t1, t2, t3, t4⟩ := hf t ht
  refine tame_tuple (w := 5 * 302) (k := 1) (fun y hy => ?_) (by simp)
  simp only [List.mem_cons, List.not_mem_nil, or_false] at hy
  rcases hy with rfl | rfl
  · exact tame_ints (n := 5) (fun k hk => by have := t2 k hk; omega) (by omega)
  · exact (tame_int (by omega)).mono (by decide) (by decide)) (by rw [List.length_map]; exact Nat.le_refl _)
def RowsG (p : Int) (n : Nat) (rows : List (List Int)) : Prop := rows.length = n ∧ ∀ r ∈ rows, RowG p r
theorem fits_pt {p : Int} : ∀ {rows : List (List Int)} {c : List Int}, (∀ r ∈ rows, RowG p r) → Fits rows c → c.length = rows.length ∧ ∀ x ∈ c, 0 ≤ x ∧ x < p
  | [], [], _, _ => ⟨rfl, by simp⟩
  | [], _ :: _, _, h => h.elim
  | _ :: _, [], _, h => h.elim
  | r :: rows, x :: c, hr, h => by
    obtain ⟨a, b⟩ := fits_pt (fun s hs => hr s (List.mem_cons_of_mem _ hs)) h.2
    refine ⟨by simp [a], fun y hy => ?_⟩
    rcases List.mem_cons.mp hy with rfl | hy
    · exact (hr r (List.mem_cons_self ..)).2.2.2 y h.1
    · exact b y hy
theorem pt_of {p : Int} {n : Nat} {rows : List (List Int)} (h : RowsG p n rows) {c : List Int} (hc : c ∈ choicesZ rows) : c.length = n ∧ ∀ x ∈ c, 0 ≤ x ∧ x < p := by
  obtain ⟨b, hb, t, rfl, ht⟩ := (mem_choices rows [[]] c).mp hc
  rw [List.mem_singleton.mp hb]
  have := fits_pt h.2 ht
  rw [h.1] at this
  exact this
theorem rows_len {p : Int} {n : Nat} {rows : List (List Int)} (hp : Pm p) (h : RowsG p n rows) : ∀ r ∈ rows, r.length ≤ 5 := fun r hr => by
  have := (h.2 r hr).2.1
  have := (pm_b hp).2
  omega
def EqOk (p : Int) (n : Nat) (es : List (List Tm)) : Prop := es.length ≤ 100 ∧ ∀ e ∈ es, PolyOk p n 1 e ∧ e.length ≤ 100
theorem lzeros_spec {p : Int} {n : Nat} {rows : List (List Int)} {es : List (List Tm)} (hp : Pm p) (hn : n ≤ 5) (hr : RowsG p n rows) (he : EqOk p n es) : Wp (g__law_zeros [.dat (.int p), .dat (.tuple (es.map polyD)), .dat (.tuple (rows.map tI))]) fun r _ => r = .own ((zerosZ p es rows).map tI) := by
  obtain ⟨hp1, hp2⟩ := pm_b hp
  refine (wp_gOf (by rfl)).mpr ?_
  unfold m__law_zeros
  have h5 := choices_five (rows_len hp hr)
  rw [hr.1] at h5
  have h55 : 5 ^ n ≤ 5 ^ 5 := Nat.pow_le_pow_right (by decide) hn
  have h56 : (5 : Nat) ^ 5 = 3125 := by decide
  refine i_retO (i_comp (i_it (i_fz (i_call (i_cons (i_var (d := .tuple (rows.map tI)) (by rfl) (i_nil ((lchoices_spec (by rw [hr.1]; exact hn) (rows_len hp hr)).mono fun r e9 h => ?_))))))))
  subst h
  refine ⟨_, rfl, _, rfl, by rw [List.length_map]; omega, ?_⟩
  refine wp_compM tI (choicesZ rows) (zeroB p es) tI (fun c hc => ⟨_, rfl, ?_⟩) ?_
  · obtain ⟨c1, c2⟩ := pt_of hr hc
    refine i_tst (i_op (i_fz (i_comp (i_it (i_var (d := .tuple (es.map polyD)) (by rfl) ⟨_, rfl, by rw [List.length_map]; have := he.1; omega, ?_⟩)))))
    refine wp_compM polyD es (fun e => !decide (evF e c % p = 0)) polyD (fun e hem => ⟨_, rfl, ?_⟩) ?_
    · obtain ⟨e1, e2⟩ := he.2 e hem
      refine i_tst (i_op (i_fz (i_call (i_cons (i_var (d := .int p) (by rfl) (i_cons (i_var (d := polyD e) (by rfl) (i_cons (i_var (d := tI c) (by rfl) (i_nil ((worth_spec hp1 hp2 hn (by decide) e1 (by omega) c1 c2).mono fun r e9 h => ?_)))))))))))
      subst h
      refine ⟨_, rfl, i_c (i_ofO neX_int ⟨_, rfl, by rw [worthZ_eq hp1], ?_⟩)⟩
      split
      · exact i_var (d := polyD e) (by rfl) ⟨rfl, rfl⟩
      · rfl
    have hT : Tame (100 * (100 * (2 * (5 * 302 + 1) + 1) + 1)) 4 (.list ((es.filter fun e => !decide (evF e c % p = 0)).map polyD)) := tame_list (w := 100 * (2 * (5 * 302 + 1) + 1)) (k := 3) (fun x hx => by
      obtain ⟨e, hem, rfl⟩ := List.mem_map.mp hx
      obtain ⟨e1, e2⟩ := he.2 e (List.mem_filter.mp hem).1
      exact (tame_poly e1 hp2 (by decide) hn).mono (Nat.mul_le_mul_right _ e2) (by decide)) (by rw [List.length_map]; exact Nat.le_trans (List.length_filter_le _ _) he.1)
    refine ⟨_, rfl, i_fz (i_lst (i_nil ⟨by simp, _, rfl, i_ofO (eqX_list_nil hT (by decide)) ⟨_, rfl, ?_, ?_⟩⟩))⟩
    · rw [List.isEmpty_map]
      unfold zeroB
      rw [Bool.eq_iff_iff, List.isEmpty_iff, List.filter_eq_nil_iff, List.all_eq_true]
      exact ⟨fun h e hem => by simpa using h e hem, fun h e hem => by simpa using h e hem⟩
    · split
      · exact i_var (d := tI c) (by rfl) ⟨rfl, rfl⟩
      · rfl
  rfl
theorem czeros_spec {p : Int} {n : Nat} {rows : List (List Int)} {es : List (List Tm)} (hp : Pm p) (hn : n ≤ 5) (hr : RowsG p n rows) (he : EqOk p n es) : Wp (g_common_zeros [.dat (.int p), .dat (.tuple (es.map polyD)), .dat (.tuple (rows.map tI))]) fun r _ => r = .dat (.tuple ((zerosZ p es rows).map tI)) := by
  obtain ⟨hp1, hp2⟩ := pm_b hp
  refine (wp_gOf (by rfl)).mpr ?_
  unfold m_common_zeros
  have h5 := choices_five (rows_len hp hr)
  rw [hr.1] at h5
  have h55 : 5 ^ n ≤ 5 ^ 5 := Nat.pow_le_pow_right (by decide) hn
  have h56 : (5 : Nat) ^ 5 = 3125 := by decide
  refine i_ret (i_b (i_cons (i_fz (i_comp (i_it (i_fz (i_call (i_cons (i_var (d := .tuple (rows.map tI)) (by rfl) (i_nil ((choicesP_spec (by rw [hr.1]; exact hn) (rows_len hp hr)).mono fun r e9 h => ?_)))))))))))
  subst h
  refine ⟨_, rfl, _, rfl, by rw [List.length_map]; omega, ?_⟩
  refine wp_compM tI (choicesZ rows) (zeroB p es) tI (fun c hc => ⟨_, rfl, ?_⟩) ?_
  · obtain ⟨c1, c2⟩ := pt_of hr hc
    refine i_tst (i_b (i_cons (i_fz (i_comp (i_it (i_var (d := .tuple (es.map polyD)) (by rfl) ⟨_, rfl, by rw [List.length_map]; have := he.1; omega, ?_⟩))))))
    refine wp_compA polyD es (fun e => .bool (decide (evF e c % p = 0))) (fun e hem => ⟨_, rfl, ?_⟩) ?_
    · obtain ⟨e1, e2⟩ := he.2 e hem
      refine i_op (i_fz (i_call (i_cons (i_var (d := .int p) (by rfl) (i_cons (i_var (d := polyD e) (by rfl) (i_cons (i_var (d := tI c) (by rfl) (i_nil ((worthP_spec hp1 hp2 hn (by decide) e1 (by omega) c1 c2).mono fun r e9 h => ?_))))))))))
      subst h
      exact ⟨_, rfl, i_c (i_ofO eqX_int ⟨by rw [worthZ_eq hp1], rfl⟩)⟩
    refine ⟨_, rfl, i_nil (i_ofO (allD_map (fun e => decide (evF e c % p = 0)) es) ⟨_, rfl, rfl, ?_⟩)⟩
    show if zeroB p es c = true then _ else _
    split
    · exact i_var (d := tI c) (by rfl) ⟨rfl, rfl⟩
    · rfl
  exact ⟨_, rfl, i_nil (i_ofO (d := .tuple ((zerosZ p es rows).map tI)) rfl rfl)⟩
/-! ### lengths, loads -/
theorem lengths_spec {rows : List (List Int)} (hl : rows.length ≤ 1000) : Wp (g_lengths_of [.dat (.tuple (rows.map tI))]) fun r _ => r = .dat (tI (lensOf rows)) := by
  refine (wp_gOf (by rfl)).mpr ?_
  unfold m_lengths_of
  refine i_ret (i_b (i_cons (i_fz (i_comp (i_it (i_var (d := .tuple (rows.map tI)) (by rfl) ⟨_, rfl, by rw [List.length_map]; omega, ?_⟩))))))
  refine wp_compA tI rows (fun r => .int (r.length : Nat)) (fun r hr => ⟨_, rfl, ?_⟩) ?_
  · exact i_b (i_cons (i_var (d := tI r) (by rfl) (i_nil (i_ofO (len_tI r) ⟨rfl, rfl⟩))))
  refine ⟨_, rfl, i_nil (i_ofO (d := tI (lensOf rows)) ?_ rfl)⟩
  unfold tI lensOf
  rw [List.map_map]; rfl
theorem llengths_spec {rows : List (List Int)} (hl : rows.length ≤ 1000) : Wp (g__law_lengths [.dat (.tuple (rows.map tI))]) fun r _ => r = .dat (tI (lensOf rows)) := lengths_spec hl
theorem deg_b {p m : Int} {n : Nat} {f : List Tm} (hf : PolyOk p n m f) (hm : 0 ≤ m) : degZ f ≤ n * m := by
  rcases (foldl_max (f.map fun t => t.1.sum) (-1)).1 with h | h
  · unfold degZ
    rw [h]
    have : 0 ≤ (n : Int) * m := Int.mul_nonneg (by omega) hm
    omega
  · unfold degZ
    obtain ⟨t, ht, e⟩ := List.mem_map.mp h
    rw [← e]
    obtain ⟨t1, t2, _⟩ := hf t ht
    have := sum_le_mul fun x hx => (t2 x hx).2
    rwa [t1] at this
theorem max2_int {a b : Int} : max2D [.int a, .int b] = some (.int (max a b)) := by
  show some (PyData.int (if b > a then b else a)) = _
  congr 2
  split <;> omega
theorem sum_b : ∀ {xs : List Int}, (∀ x ∈ xs, 0 ≤ x ∧ x ≤ 500) → 0 ≤ xs.sum ∧ xs.sum ≤ xs.length * 500
  | [], _ => by simp
  | x :: xs, h => by
    have h1 := h x (List.mem_cons_self ..)
    have h2 := sum_b fun y hy => h y (List.mem_cons_of_mem _ hy)
    rw [List.sum_cons, List.length_cons]; omega
theorem loads_b {p : Int} {n : Nat} {es : List (List Tm)} (hn : n ≤ 5) (he : EqOk p n es) : 0 ≤ (es.map fun e => max 0 (degZ e)).sum ∧ (es.map fun e => max 0 (degZ e)).sum ≤ 50000 := by
  have := sum_b (xs := es.map fun e => max 0 (degZ e)) fun x hx => by
    obtain ⟨e, hem, rfl⟩ := List.mem_map.mp hx
    have := deg_b (he.2 e hem).1 (by decide)
    omega
  rw [List.length_map] at this
  have := he.1
  omega
theorem load_spec {p : Int} {n : Nat} {es : List (List Tm)} (hp : Pm p) (hn : n ≤ 5) (he : EqOk p n es) : Wp (g_load [.dat (.int p), .dat (.tuple (es.map polyD))]) fun r _ => r = .dat (.int (loadZ p es)) := by
  obtain ⟨hp1, hp2⟩ := pm_b hp
  refine (wp_gOf (by rfl)).mpr ?_
  unfold m_load
  obtain ⟨b0, b1⟩ := loads_b hn he
  refine i_ret (i_op (i_op (i_var (d := .int p) (by rfl) (i_c (i_ofO subD_int ?_)))))
  refine i_b (i_cons (i_fz (i_comp (i_it (i_var (d := .tuple (es.map polyD)) (by rfl) ⟨_, rfl, by rw [List.length_map]; have := he.1; omega, ?_⟩)))))
  refine wp_compA polyD es (fun e => .int (max 0 (degZ e))) (fun e hem => ⟨_, rfl, ?_⟩) ?_
  · refine i_b (i_cons (i_c (i_cons (i_fz (i_call (i_cons (i_var (d := polyD e) (by rfl) (i_nil ((degree_spec (by have := (he.2 e hem).2; omega)).mono fun r e9 h => ?_)))))))))
    subst h
    exact ⟨_, rfl, i_nil (i_ofO max2_int ⟨rfl, rfl⟩)⟩
  have hs : sumD [.list (es.map fun e => PyData.int (max 0 (degZ e)))] = some (.int (es.map fun e => max 0 (degZ e)).sum) := by
    have := sumD_ints (es.map fun e => max 0 (degZ e))
    rw [List.map_map] at this
    exact this
  exact ⟨_, rfl, i_nil (i_ofO hs (i_ofO (mulX_int (mulD_ok (by omega) (by omega))) rfl))⟩
theorem lload_spec {p : Int} {n : Nat} {es : List (List Tm)} (hp : Pm p) (hn : n ≤ 5) (he : EqOk p n es) : Wp (g__law_load [.dat (.int p), .dat (.tuple (es.map polyD))]) fun r _ => r = .dat (.int (loadZ p es)) := by
  obtain ⟨hp1, hp2⟩ := pm_b hp
  refine (wp_gOf (by rfl)).mpr ?_
  unfold m__law_load
  obtain ⟨b0, b1⟩ := loads_b hn he
  refine i_ret (i_op (i_op (i_var (d := .int p) (by rfl) (i_c (i_ofO subD_int ?_)))))
  refine i_b (i_cons (i_fz (i_comp (i_it (i_var (d := .tuple (es.map polyD)) (by rfl) ⟨_, rfl, by rw [List.length_map]; have := he.1; omega, ?_⟩)))))
  refine wp_compA polyD es (fun e => .int (max 0 (degZ e))) (fun e hem => ⟨_, rfl, ?_⟩) ?_
  · refine i_b (i_cons (i_c (i_cons (i_fz (i_call (i_cons (i_var (d := polyD e) (by rfl) (i_nil ((ldegree_spec (by have := (he.2 e hem).2; omega)).mono fun r e9 h => ?_)))))))))
    subst h
    exact ⟨_, rfl, i_nil (i_ofO max2_int ⟨rfl, rfl⟩)⟩
  have hs : sumD [.list (es.map fun e => PyData.int (max 0 (degZ e)))] = some (.int (es.map fun e => max 0 (degZ e)).sum) := by
    have := sumD_ints (es.map fun e => max 0 (degZ e))
    rw [List.map_map] at this
    exact this
  exact ⟨_, rfl, i_nil (i_ofO hs (i_ofO (mulX_int (mulD_ok (by omega) (by omega))) rfl))⟩
theorem load_b {p : Int} {n : Nat} {es : List (List Tm)} (hp : Pm p) (hn : n ≤ 5) (he : EqOk p n es) : 0 ≤ loadZ p es ∧ loadZ p es ≤ 100000000 ∧ True := by
  obtain ⟨b0, b1⟩ := loads_b hn he
  obtain ⟨hp1, hp2⟩ := pm_b hp
  unfold loadZ
  have h1 : (p - 1) * (es.map fun e => max 0 (degZ e)).sum ≤ 4 * 50000 := Int.mul_le_mul (by omega) b1 b0 (by decide)
  exact ⟨Int.mul_nonneg (by omega) b0, by omega, trivial⟩
theorem lens_b {p : Int} {n : Nat} {rows : List (List Int)} (hp : Pm p) (hn : n ≤ 5) (hr : RowsG p n rows) : (∀ k ∈ lensOf rows, 1 ≤ k ∧ k ≤ 16) ∧ (lensOf rows).length = n := by
  obtain ⟨hp1, hp2⟩ := pm_b hp
  refine ⟨fun k hk => ?_, by unfold lensOf; rw [List.length_map, hr.1]⟩
  unfold lensOf at hk
  obtain ⟨r, hr2, rfl⟩ := List.mem_map.mp hk
  have := hr.2 r hr2
  have := this.1; have := (hr.2 r hr2).2.1
  omega
def leastZ (p : Int) (es : List (List Tm)) (rows : List (List Int)) : Int := prodZ (greedy (ord (lensOf rows)) (loadZ p es) (lensOf rows))
theorem fewest_spec {p : Int} {n : Nat} {rows : List (List Int)} {es : List (List Tm)} (hp : Pm p) (hn : n ≤ 5) (hr : RowsG p n rows) (he : EqOk p n es) : Wp (g_fewest_zeros [.dat (.int p), .dat (.tuple (es.map polyD)), .dat (.tuple (rows.map tI))]) fun r _ => r = .dat (.int (leastZ p es rows)) := by
  refine (wp_gOf (by rfl)).mpr ?_
  unfold m_fewest_zeros
  obtain ⟨l1, l2⟩ := lens_b hp hn hr
  refine i_retO (i_call (i_cons (i_fz (i_call (i_cons (i_var (d := .tuple (rows.map tI)) (by rfl) (i_nil ((lengths_spec (by rw [hr.1]; omega)).mono fun r e9 h => ?_))))))))
  subst h
  refine ⟨_, rfl, i_cons (i_fz (i_call (i_cons (i_var (d := .int p) (by rfl) (i_cons (i_var (d := .tuple (es.map polyD)) (by rfl) (i_nil ((load_spec hp hn he).mono fun r e9 h => ?_))))))))⟩
  subst h
  exact ⟨_, rfl, i_nil ((picks_spec l1 (by omega) (load_b hp hn he).1).mono fun r e h => h)⟩
theorem small_rows {p : Int} {n : Nat} {rows : List (List Int)} (hp : Pm p) (hn1 : 1 ≤ n) (hn : n ≤ 5) (h3 : p ≠ 2 → n ≤ 3) (hr : RowsG p n rows) : SmallR (lensOf rows) := by
  obtain ⟨l1, l2⟩ := lens_b hp hn hr
  refine ⟨fun k hk => (l1 k hk).1, by omega, ?_⟩
  have hb : ∀ k ∈ lensOf rows, k ≤ p := fun k hk => by
    unfold lensOf at hk
    obtain ⟨r, hr2, rfl⟩ := List.mem_map.mp hk
    exact (hr.2 r hr2).2.1
  by_cases z : p = 2
  · exact .inr ⟨by omega, fun k hk => by have := hb k hk; omega⟩
  · have := h3 z
    have := (pm_b hp).2
    exact .inl ⟨by omega, fun k hk => by have := hb k hk; omega⟩
theorem distinct_of {p : Int} {r : List Int} (h : RowG p r) : AF.Distinct p r := by
  obtain ⟨_, _, nd, hr⟩ := h
  unfold AF.Distinct
  refine List.Pairwise.imp_of_mem (fun {a b} ha hb hab hd => hab ?_) nd
  have h1 := hr a ha
  have h2 := hr b hb
  obtain ⟨k, hk⟩ := hd
  have h3 : k = 0 := by
    rcases Int.lt_trichotomy k 0 with z | z | z
    · have : p * k ≤ p * (-1) := Int.mul_le_mul_of_nonneg_left (by omega) (by omega)
      omega
    · exact z
    · have : p * 1 ≤ p * k := Int.mul_le_mul_of_nonneg_left (by omega) (by omega)
      omega
  rw [h3] at hk
  omega
theorem least_zeros {p : Int} {n : Nat} {rows : List (List Int)} {es : List (List Tm)} (hp : Pm p) (hn1 : 1 ≤ n) (hn : n ≤ 5) (h3 : p ≠ 2 → n ≤ 3) (hr : RowsG p n rows) (he : EqOk p n es) (hz : ∃ c ∈ choicesZ rows, zeroB p es c = true) : leastZ p es rows ≤ ((zerosZ p es rows).length : Int) :=
  many_zeros hp hr.1 (small_rows hp hn1 hn h3 hr) (fun S hS => distinct_of (hr.2 S hS)) (fun c hc => (pt_of hr hc).1) (fun e he' => (he.2 e he').1) hz
/-! ### unknowns -/
def uns (n many : Nat) : List (List Tm) := (List.range many).map fun i => [(unitI n i, (1 : Int))]
theorem uns_D (n many : Nat) : (List.range many).map (unitP n) = (uns n many).map polyD := by
  unfold uns
  rw [List.map_map]; rfl
theorem uns_ok {p : Int} {n many : Nat} (hp : 2 ≤ p) (hm : many ≤ 100) : EqOk p n (uns n many) := by
  refine ⟨by unfold uns; rw [List.length_map, List.length_range]; exact hm, fun e he => ?_⟩
  unfold uns at he
  obtain ⟨i, _, rfl⟩ := List.mem_map.mp he
  refine ⟨fun t ht => ?_, by simp⟩
  rw [List.mem_singleton.mp ht]
  refine ⟨by unfold unitI; simp, fun x hx => ?_, by show (1 : Int) ≤ 1; decide, by show (1 : Int) < p; omega⟩
  unfold unitI at hx
  obtain ⟨j, _, rfl⟩ := List.mem_map.mp hx
  split <;> decide
def chkU (p : Int) (n many : Nat) : Bool := decide (((zerosZ p (uns n many) (List.replicate n (upTo p))).length : Int) = prodZ (List.replicate (n - many) p)) && decide (prodZ (greedy (isort (pairs (lensOf (List.replicate n (upTo p))))) (loadZ p (uns n many)) (lensOf (List.replicate n (upTo p)))) = prodZ (List.replicate (n - many) p))
theorem chk_u : (([(2, 2), (2, 3), (2, 4), (2, 5), (3, 2), (3, 3), (5, 2)] : List (Int × Nat)).all fun q => (List.range (q.2 + 1)).all fun many => chkU q.1 q.2 many) = true := by decide +kernel
theorem uns_eq {p : Int} {n many : Nat} (h : (p, n) ∈ ([(2, 2), (2, 3), (2, 4), (2, 5), (3, 2), (3, 3), (5, 2)] : List (Int × Nat))) (hm : many ≤ n) : ((zerosZ p (uns n many) (List.replicate n (upTo p))).length : Int) = prodZ (List.replicate (n - many) p) ∧ leastZ p (uns n many) (List.replicate n (upTo p)) = prodZ (List.replicate (n - many) p) := by
  have h1 := List.all_eq_true.mp (List.all_eq_true.mp chk_u (p, n) h) many (List.mem_range.mpr (by show many < n + 1; omega))
  unfold chkU at h1
  rw [Bool.and_eq_true, decide_eq_true_eq, decide_eq_true_eq] at h1
  unfold leastZ
  rw [ord_isort]
  exact h1
theorem every_ok {p : Int} {n : Nat} (hp : Pm p) : RowsG p n (List.replicate n (upTo p)) := ⟨by simp, fun r hr => by
  obtain ⟨hp1, hp2⟩ := pm_b hp
  rw [List.eq_of_mem_replicate hr]
  refine ⟨by unfold upTo; rw [List.length_map, List.length_range]; omega, by unfold upTo; rw [List.length_map, List.length_range]; omega, upTo_nodup p, fun x hx => ?_⟩
  unfold upTo at hx
  obtain ⟨i, hi, rfl⟩ := List.mem_map.mp hx
  have := List.mem_range.mp hi
  omega⟩
end K36
namespace K36
open PySem PySem.Spec L2 Lp
/-! ### the law's rows -/
def cA : M Ctl := mSeq (mAsg 6 (mFz (mCallIO 1 g__law_any (mCons (mOp addD (mVar 9) (mC (.int 1))) mNil)))) (mSeq (mAsg 7 (mFz (mCall g_zero_unknowns (mCons (mVar 8) (mCons (mVar 9) (mCons (mVar 6) mNil)))))) (mIf (mOr (mTst (mOp neX (mB lenD (mCons (mFz (mCall g__law_zeros (mCons (mVar 8) (mCons (mVar 7) (mCons (mVar 10) mNil))))) mNil)) (mFz (mCall g__law_product (mCons (mFz (mRepO (mFz (mLst (mCons (mVar 8) mNil))) (mOp subD (mVar 9) (mVar 6)))) mNil))))) (mTst (mOp neX (mFz (mCall g_fewest_zeros (mCons (mVar 8) (mCons (mVar 7) (mCons (mVar 10) mNil))))) (mFz (mCall g__law_product (mCons (mFz (mRepO (mFz (mLst (mCons (mVar 8) mNil))) (mOp subD (mVar 9) (mVar 6)))) mNil)))))) (mRet (mC (.bool false))) mNext))
def cB : M Ctl := mSeq (mPar2 14 15 (mOd (mFz (mCall g__law_zeros (mCons (mVar 8) (mCons (mVar 5) (mCons (mVar 3) mNil)))))) (mOd (mFz (mCall g__law_product (mCons (mFz (mCall g__law_least (mCons (mFz (mCall g__law_lengths (mCons (mVar 3) mNil))) (mCons (mFz (mCall g__law_load (mCons (mVar 8) (mCons (mVar 5) mNil)))) mNil)))) mNil))))) (mSeq (mIf (mOr (mTst (mOp neX (mB reprD (mCons (mFz (mCall g_fewest_zeros (mCons (mVar 8) (mCons (mVar 5) (mCons (mVar 3) mNil))))) mNil)) (mB reprD (mCons (mVar 15) mNil)))) (mOr (mTst (mOp eqX (mVar 14) (mFz (mLst mNil)))) (mTst (mOp ltD (mB lenD (mCons (mVar 14) mNil)) (mVar 15))))) (mRet (mC (.bool false))) mNext) (mSeq (mIf (mTst (mOp neX (mB reprD (mCons (mFz (mCall g_common_zeros (mCons (mVar 8) (mCons (mVar 5) (mCons (mVar 3) mNil))))) mNil)) (mB reprD (mCons (mB tupleD (mCons (mVar 14) mNil)) mNil)))) (mRet (mC (.bool false))) mNext) (mSeq (mAsg 6 (mFz (mCallIO 1 g__law_any (mCons (mOp addD (mVar 9) (mC (.int 1))) mNil)))) (mSeq (mAsg 7 (mFz (mCall g_zero_unknowns (mCons (mVar 8) (mCons (mVar 9) (mCons (mVar 6) mNil)))))) (mIf (mOr (mTst (mOp neX (mB lenD (mCons (mFz (mCall g__law_zeros (mCons (mVar 8) (mCons (mVar 7) (mCons (mVar 10) mNil))))) mNil)) (mFz (mCall g__law_product (mCons (mFz (mRepO (mFz (mLst (mCons (mVar 8) mNil))) (mOp subD (mVar 9) (mVar 6)))) mNil))))) (mTst (mOp neX (mFz (mCall g_fewest_zeros (mCons (mVar 8) (mCons (mVar 7) (mCons (mVar 10) mNil))))) (mFz (mCall g__law_product (mCons (mFz (mRepO (mFz (mLst (mCons (mVar 8) mNil))) (mOp subD (mVar 9) (mVar 6)))) mNil)))))) (mRet (mC (.bool false))) mNext)))))
def cC : M Ctl := mSeq (mPar2 5 12 (mLst mNil) (mOd (mFz (mCallIO 1 g__law_of (mCons (mFz (mCall g__law_choices (mCons (mVar 3) mNil))) mNil))))) (mSeq (mFor (mItO rg1 (mCons (mFz (mCallIO 1 g__law_any (mCons (mC (.int 3)) mNil))) mNil)) (gtN 4) b1_law []) (mSeq (mAsg 5 (mB tupleD (mCons (mVar 5) mNil))) (mSeq (mPar2 14 15 (mOd (mFz (mCall g__law_zeros (mCons (mVar 8) (mCons (mVar 5) (mCons (mVar 3) mNil)))))) (mOd (mFz (mCall g__law_product (mCons (mFz (mCall g__law_least (mCons (mFz (mCall g__law_lengths (mCons (mVar 3) mNil))) (mCons (mFz (mCall g__law_load (mCons (mVar 8) (mCons (mVar 5) mNil)))) mNil)))) mNil))))) (mSeq (mIf (mOr (mTst (mOp neX (mB reprD (mCons (mFz (mCall g_fewest_zeros (mCons (mVar 8) (mCons (mVar 5) (mCons (mVar 3) mNil))))) mNil)) (mB reprD (mCons (mVar 15) mNil)))) (mOr (mTst (mOp eqX (mVar 14) (mFz (mLst mNil)))) (mTst (mOp ltD (mB lenD (mCons (mVar 14) mNil)) (mVar 15))))) (mRet (mC (.bool false))) mNext) (mSeq (mIf (mTst (mOp neX (mB reprD (mCons (mFz (mCall g_common_zeros (mCons (mVar 8) (mCons (mVar 5) (mCons (mVar 3) mNil))))) mNil)) (mB reprD (mCons (mB tupleD (mCons (mVar 14) mNil)) mNil)))) (mRet (mC (.bool false))) mNext) (mSeq (mAsg 6 (mFz (mCallIO 1 g__law_any (mCons (mOp addD (mVar 9) (mC (.int 1))) mNil)))) (mSeq (mAsg 7 (mFz (mCall g_zero_unknowns (mCons (mVar 8) (mCons (mVar 9) (mCons (mVar 6) mNil)))))) (mIf (mOr (mTst (mOp neX (mB lenD (mCons (mFz (mCall g__law_zeros (mCons (mVar 8) (mCons (mVar 7) (mCons (mVar 10) mNil))))) mNil)) (mFz (mCall g__law_product (mCons (mFz (mRepO (mFz (mLst (mCons (mVar 8) mNil))) (mOp subD (mVar 9) (mVar 6)))) mNil))))) (mTst (mOp neX (mFz (mCall g_fewest_zeros (mCons (mVar 8) (mCons (mVar 7) (mCons (mVar 10) mNil))))) (mFz (mCall g__law_product (mCons (mFz (mRepO (mFz (mLst (mCons (mVar 8) mNil))) (mOp subD (mVar 9) (mVar 6)))) mNil)))))) (mRet (mC (.bool false))) mNext))))))))
def Ev (s : Sl) (c : List Int) (b : Int) (x2 x3 x4 x5 x6 x7 x8 x9 x10 x11 x12 x13 x14 x15 : Sl) : Env' := [s, .deal c b, x2, x3, x4, x5, x6, x7, x8, x9, x10, x11, x12, x13, x14, x15]
def Inv (e : Env') (s : Sl) : Prop := ∃ c b x2 x3 x4 x5 x6 x7 x8 x9 x10 x11 x12 x13 x14 x15, DealOk c b ∧ e = Ev s c b x2 x3 x4 x5 x6 x7 x8 x9 x10 x11 x12 x13 x14 x15
abbrev PN : List (Int × Nat) := [(2, 2), (2, 3), (2, 4), (2, 5), (3, 2), (3, 3), (5, 2)]
theorem pn_ok {p : Int} {n : Nat} (h : (p, n) ∈ PN) : Pm p ∧ 1 ≤ n ∧ n ≤ 5 ∧ (p ≠ 2 → n ≤ 3) := by
  simp only [List.mem_cons, List.not_mem_nil, or_false, Prod.mk.injEq] at h
  rcases h with ⟨rfl, rfl⟩ | ⟨rfl, rfl⟩ | ⟨rfl, rfl⟩ | ⟨rfl, rfl⟩ | ⟨rfl, rfl⟩ | ⟨rfl, rfl⟩ | ⟨rfl, rfl⟩ <;> exact ⟨by unfold Pm; omega, by omega, by omega, by omega⟩
theorem rep1 {p : Int} {k : Nat} (hk : k ≤ 1000) : repL (.list [.int p]) (.int (k : Nat)) = some (.list ((List.replicate k p).map PyData.int)) := by
  show (if (inR (k : Nat) && decide ([PyData.int p].length * ((k : Nat) : Int).toNat ≤ 16777216)) = true then some (PyData.list (List.replicate ((k : Nat) : Int).toNat [PyData.int p]).flatten) else none) = _
  have e3 : ∀ j : Nat, (List.replicate j [PyData.int p]).flatten = (List.replicate j p).map PyData.int := fun j => by
    induction j with
    | zero => rfl
    | succ j ih => rw [List.replicate_succ, List.flatten_cons, ih, List.replicate_succ]; rfl
  rw [if_pos (by rw [inR_of (by omega) (by omega), Int.toNat_natCast]; simp; omega), Int.toNat_natCast, e3]
theorem prodrep_spec {p : Int} {n many : Nat} {E : Env'} (hp : Pm p) (hn : n ≤ 5) (hm : many ≤ n) (g8 : E[8]? = some (.dat (.int p))) (g9 : E[9]? = some (.dat (.int (n : Nat)))) (g6 : E[6]? = some (.dat (.int (many : Nat)))) : Wp ((mFz (mCall g__law_product (mCons (mFz (mRepO (mFz (mLst (mCons (mVar 8) mNil))) (mOp subD (mVar 9) (mVar 6)))) mNil))) E) fun d e => d = .int (prodZ (List.replicate (n - many) p)) ∧ e = E := by
  obtain ⟨hp1, hp2⟩ := pm_b hp
  have e1 : (n : Int) - (many : Int) = ((n - many : Nat) : Int) := by omega
  refine i_fz (i_call (i_cons (i_fz (i_repO (i_fz (i_lst (i_cons (i_var g8 (i_nil ⟨by simp, _, rfl, i_op (i_var g9 (i_var g6 (i_ofO subD_int ?_)))⟩)))))))))
  rw [e1]
  refine ⟨_, rep1 (by omega), _, rfl, i_nil ((plist_spec (ns := List.replicate (n - many) p) (fun k hk => ?_) (by simp; omega)).mono fun r e9 h => ?_)⟩
  · rw [List.eq_of_mem_replicate hk]; omega
  · subst h
    exact ⟨_, rfl, rfl, rfl⟩
theorem choices_q {q : Nat} : ∀ {rows : List (List Int)}, (∀ r ∈ rows, r.length ≤ q) → (choicesZ rows).length ≤ q ^ rows.length := by
  intro rows
  rw [grid_eq]
  induction rows with
  | nil => intro _; exact Nat.le_refl _
  | cons S R ih =>
    intro h
    have h1 := h S (List.mem_cons_self ..)
    have h2 := ih fun r hr => h r (List.mem_cons_of_mem _ hr)
    have e : ∀ T : List Int, (T.flatMap fun x => (AF.grid R).map (x :: ·)).length = T.length * (AF.grid R).length := by
      intro T
      induction T with
      | nil => simp
      | cons x T ihS => rw [List.flatMap_cons, List.length_append, List.length_map, ihS, List.length_cons, Nat.succ_mul]; omega
    show (S.flatMap fun x => (AF.grid R).map (x :: ·)).length ≤ _
    rw [e, List.length_cons, Nat.pow_succ, Nat.mul_comm (q ^ R.length) q]
    exact Nat.mul_le_mul h1 h2
theorem choices_32 {p : Int} {n : Nat} {rows : List (List Int)} (hpn : (p, n) ∈ PN) (hr : RowsG p n rows) : (choicesZ rows).length ≤ 32 := by
  have h := choices_q (q := p.toNat) (rows := rows) fun r hr2 => by
    have := (hr.2 r hr2).2.1
    omega
  rw [hr.1] at h
  refine Nat.le_trans h ?_
  simp only [List.mem_cons, List.not_mem_nil, or_false, Prod.mk.injEq] at hpn
  rcases hpn with ⟨rfl, rfl⟩ | ⟨rfl, rfl⟩ | ⟨rfl, rfl⟩ | ⟨rfl, rfl⟩ | ⟨rfl, rfl⟩ | ⟨rfl, rfl⟩ | ⟨rfl, rfl⟩ <;> decide
theorem tame_small {i : Int} (h0 : 0 ≤ i) (h1 : i < 8) : Tame 3 0 (.int i) := by
  have h := tame_int (i := i) (by omega)
  refine ⟨h.sh, h.nd, h.cl, h.dp, h.ls, ?_⟩
  show (if i == 0 then 0 else i.natAbs.log2 + 1) ≤ 3
  have : i = 0 ∨ i = 1 ∨ i = 2 ∨ i = 3 ∨ i = 4 ∨ i = 5 ∨ i = 6 ∨ i = 7 := by omega
  rcases this with rfl | rfl | rfl | rfl | rfl | rfl | rfl | rfl <;> decide
theorem load_small {p : Int} {n : Nat} {es : List (List Tm)} (hp : Pm p) (hn : n ≤ 5) (he : EqOk p n es) : loadZ p es ≤ 100000 := by
  have g : ∀ {xs : List Int}, (∀ x ∈ xs, 0 ≤ x ∧ x ≤ 5) → 0 ≤ xs.sum ∧ xs.sum ≤ xs.length * 5 := by
    intro xs
    induction xs with
    | nil => intro _; simp
    | cons x xs ih =>
      intro h
      have h1 := h x (List.mem_cons_self ..)
      have h2 := ih fun y hy => h y (List.mem_cons_of_mem _ hy)
      rw [List.sum_cons, List.length_cons]; omega
  obtain ⟨b0, b1⟩ := g (xs := es.map fun e => max 0 (degZ e)) fun x hx => by
    obtain ⟨e, hem, rfl⟩ := List.mem_map.mp hx
    have := deg_b (he.2 e hem).1 (by decide)
    omega
  rw [List.length_map] at b1
  have := he.1
  obtain ⟨hp1, hp2⟩ := pm_b hp
  unfold loadZ
  have h1 : (p - 1) * (es.map fun e => max 0 (degZ e)).sum ≤ 4 * 500 := Int.mul_le_mul (by omega) (by omega) b0 (by decide)
  omega
theorem cA_ok {s : Sl} {c : List Int} {b p : Int} {n : Nat} {x2 x3 x4 x5 x6 x7 x11 x12 x13 x14 x15 : Sl} (hd : DealOk c b) (hpn : (p, n) ∈ PN) :
    Wp (cA (Ev s c b x2 x3 x4 x5 x6 x7 (.dat (.int p)) (.dat (.int (n : Nat))) (.dat (.tuple ((List.replicate n (upTo p)).map tI))) x11 x12 x13 x14 x15)) fun r e => r = .next ∧ Inv e s := by
  obtain ⟨hp, hn1, hn, h3⟩ := pn_ok hpn
  obtain ⟨hp1, hp2⟩ := pm_b hp
  unfold cA
  refine i_seq (i_asg (i_fz (wp_any (i := 1) (k := (n : Int) + 1) (by rfl) hd (i_op (i_var (d := .int (n : Nat)) (by rfl) (i_c (i_ofO addD_int ⟨rfl, rfl⟩)))) (by omega) (by omega) fun m c b m0 m1 hd => ⟨_, rfl, ?_⟩)))
  obtain ⟨many, hM, hM5⟩ : ∃ M : Nat, m = (M : Int) ∧ M ≤ n := ⟨m.toNat, by omega, by omega⟩
  subst hM
  show Wp (mSeq _ _ (Ev s c b x2 x3 x4 x5 (.dat (.int (many : Nat))) x7 (.dat (.int p)) (.dat (.int (n : Nat))) (.dat (.tuple ((List.replicate n (upTo p)).map tI))) x11 x12 x13 x14 x15)) _
  refine i_seq (i_asg (i_fz (i_call (i_cons (i_var (d := .int p) (by rfl) (i_cons (i_var (d := .int (n : Nat)) (by rfl) (i_cons (i_var (d := .int (many : Nat)) (by rfl) (i_nil ((zeros_spec (p := p) (n := n) (m := many) (by omega) (by omega)).mono fun r e9 h => ?_)))))))))) )
  subst h
  rw [uns_D]
  refine ⟨_, rfl, ?_⟩
  show Wp (mIf _ _ _ (Ev s c b x2 x3 x4 x5 (.dat (.int (many : Nat))) (.dat (.tuple ((uns n many).map polyD))) (.dat (.int p)) (.dat (.int (n : Nat))) (.dat (.tuple ((List.replicate n (upTo p)).map tI))) x11 x12 x13 x14 x15)) _
  generalize hE : Ev s c b x2 x3 x4 x5 (.dat (.int (many : Nat))) (.dat (.tuple ((uns n many).map polyD))) (.dat (.int p)) (.dat (.int (n : Nat))) (.dat (.tuple ((List.replicate n (upTo p)).map tI))) x11 x12 x13 x14 x15 = E
  have g6 : E[6]? = some (.dat (.int (many : Nat))) := by rw [← hE]; rfl
  have g7 : E[7]? = some (.dat (.tuple ((uns n many).map polyD))) := by rw [← hE]; rfl
  have g8 : E[8]? = some (.dat (.int p)) := by rw [← hE]; rfl
  have g9 : E[9]? = some (.dat (.int (n : Nat))) := by rw [← hE]; rfl
  have g10 : E[10]? = some (.dat (.tuple ((List.replicate n (upTo p)).map tI))) := by rw [← hE]; rfl
  have hev := every_ok (n := n) hp
  have hun := uns_ok (n := n) (many := many) hp1 (by omega)
  obtain ⟨u1, u2⟩ := uns_eq hpn hM5
  refine i_if (i_or (i_tst (i_op (i_b (i_cons (i_fz (i_call (i_cons (i_var g8 (i_cons (i_var g7 (i_cons (i_var g10 (i_nil ((lzeros_spec hp hn hev hun).mono fun r e9 h => ?_)))))))))))))))
  subst h
  refine ⟨_, rfl, i_nil (i_ofO (d := .int (prodZ (List.replicate (n - many) p))) ?_ ((prodrep_spec hp hn hM5 g8 g9 g6).mono fun d e9 h => ?_))⟩
  · show some (PyData.int (((zerosZ p (uns n many) (List.replicate n (upTo p))).map tI).length : Nat)) = _
    rw [List.length_map, u1]
  obtain ⟨rfl, rfl⟩ := h
  refine i_ofO neX_int ⟨_, rfl, ite_f (by simp) ?_⟩
  refine i_tst (i_op (i_fz (i_call (i_cons (i_var g8 (i_cons (i_var g7 (i_cons (i_var g10 (i_nil ((fewest_spec hp hn hev hun).mono fun r e9 h => ?_)))))))))) )
  subst h
  refine ⟨_, rfl, (prodrep_spec hp hn hM5 g8 g9 g6).mono fun d e9 h => ?_⟩
  obtain ⟨rfl, rfl⟩ := h
  rw [u2]
  refine i_ofO neX_int ⟨_, rfl, ite_f (by simp) (i_next ⟨rfl, ?_⟩)⟩
  subst hE
  exact ⟨c, b, _, _, _, _, _, _, _, _, _, _, _, _, _, _, hd, rfl⟩
theorem cB_ok {s : Sl} {c : List Int} {b p : Int} {n : Nat} {rows : List (List Int)} {es : List (List Tm)} {x2 x4 x6 x7 x11 x12 x13 x14 x15 : Sl} (hd : DealOk c b) (hpn : (p, n) ∈ PN) (hr : RowsG p n rows) (he : EqOk p n es) (hz : ∃ c ∈ choicesZ rows, zeroB p es c = true) :
    Wp (cB (Ev s c b x2 (.dat (.tuple (rows.map tI))) x4 (.dat (.tuple (es.map polyD))) x6 x7 (.dat (.int p)) (.dat (.int (n : Nat))) (.dat (.tuple ((List.replicate n (upTo p)).map tI))) x11 x12 x13 x14 x15)) fun r e => r = .next ∧ Inv e s := by
  obtain ⟨hp, hn1, hn, h3⟩ := pn_ok hpn
  obtain ⟨hp1, hp2⟩ := pm_b hp
  have hL := least_zeros hp hn1 hn h3 hr he hz
  obtain ⟨l1, l2⟩ := lens_b hp hn hr
  obtain ⟨lb0, lb1, _⟩ := load_b hp hn he
  have hne : zerosZ p es rows ≠ [] := fun e => by
    obtain ⟨c, h1, h2⟩ := hz
    have : c ∈ zerosZ p es rows := List.mem_filter.mpr ⟨h1, h2⟩
    rw [e] at this; cases this
  have hzl : (zerosZ p es rows).length ≤ 32 := Nat.le_trans (List.length_filter_le _ _) (choices_32 hpn hr)
  have l1' : ∀ k ∈ lensOf rows, 1 ≤ k := fun k hk => (l1 k hk).1
  have hbox : BoxOf (lensOf rows) (greedy (ord (lensOf rows)) (loadZ p es) (lensOf rows)) := box_greedy _ _ _ lb0 (ord_ok l1') (box_self l1')
  have hgm := box_mem hbox fun k hk => (l1 k hk).2
  unfold cB
  refine i_seq (i_par2 (i_od (i_fz (i_call (i_cons (i_var (d := .int p) (by rfl) (i_cons (i_var (d := .tuple (es.map polyD)) (by rfl) (i_cons (i_var (d := .tuple (rows.map tI)) (by rfl) (i_nil ((lzeros_spec hp hn hr he).mono fun r e9 h => ?_))))))))))))
  subst h
  refine ⟨_, rfl, ?_⟩
  refine i_od (i_fz (i_call (i_cons (i_fz (i_call (i_cons (i_fz (i_call (i_cons (i_var (d := .tuple (rows.map tI)) (by rfl) (i_nil ((llengths_spec (by rw [hr.1]; omega)).mono fun r e9 h => ?_))))))))))))
  subst h
  refine ⟨_, rfl, i_cons (i_fz (i_call (i_cons (i_var (d := .int p) (by rfl) (i_cons (i_var (d := .tuple (es.map polyD)) (by rfl) (i_nil ((lload_spec hp hn he).mono fun r e9 h => ?_))))))))⟩
  subst h
  refine ⟨_, rfl, i_nil ((least_spec (d := loadZ p es) l1' (by omega) lb0 (load_small hp hn he)).mono fun r e9 h => ?_)⟩
  subst h
  refine ⟨_, rfl, i_nil ((lproduct_spec hgm (by rw [greedy_length]; omega)).mono fun r e9 h => ?_)⟩
  subst h
  refine ⟨_, rfl, ?_⟩
  show Wp (mSeq _ _ (Ev s c b x2 (.dat (.tuple (rows.map tI))) x4 (.dat (.tuple (es.map polyD))) x6 x7 (.dat (.int p)) (.dat (.int (n : Nat))) (.dat (.tuple ((List.replicate n (upTo p)).map tI))) x11 x12 x13 (.dat (.list ((zerosZ p es rows).map tI))) (.dat (.int (leastZ p es rows))))) _
  generalize hE : Ev s c b x2 (.dat (.tuple (rows.map tI))) x4 (.dat (.tuple (es.map polyD))) x6 x7 (.dat (.int p)) (.dat (.int (n : Nat))) (.dat (.tuple ((List.replicate n (upTo p)).map tI))) x11 x12 x13 (.dat (.list ((zerosZ p es rows).map tI))) (.dat (.int (leastZ p es rows))) = E
  have g3 : E[3]? = some (.dat (.tuple (rows.map tI))) := by rw [← hE]; rfl
  have g5 : E[5]? = some (.dat (.tuple (es.map polyD))) := by rw [← hE]; rfl
  have g8 : E[8]? = some (.dat (.int p)) := by rw [← hE]; rfl
  have g14 : E[14]? = some (.dat (.list ((zerosZ p es rows).map tI))) := by rw [← hE]; rfl
  have g15 : E[15]? = some (.dat (.int (leastZ p es rows))) := by rw [← hE]; rfl
  have args : Wp ((mCons (mVar 8) (mCons (mVar 5) (mCons (mVar 3) mNil))) E) fun xs e' => xs = [.int p, .tuple (es.map polyD), .tuple (rows.map tI)] ∧ e' = E := i_cons (i_var g8 (i_cons (i_var g5 (i_cons (i_var g3 (i_nil ⟨rfl, rfl⟩))))))
  have hlz0 : 0 ≤ leastZ p es rows := by
    have := prod_pos fun k hk => (hgm k hk).1
    unfold leastZ
    omega
  have hrep : reprD [.int (leastZ p es rows)] = some (.str (PyData.shown (.int (leastZ p es rows)))) := reprD_int (by omega)
  have hzT : ∀ y ∈ (zerosZ p es rows).map tI, Tame (5 * 4) 1 y := fun y hy => by
    obtain ⟨x, hx, rfl⟩ := List.mem_map.mp hy
    obtain ⟨c1, c2⟩ := pt_of hr (List.mem_filter.mp hx).1
    exact tame_tuple (w := 3) (k := 0) (fun z hz => by
      obtain ⟨k, hk, rfl⟩ := List.mem_map.mp hz
      have := c2 k hk
      exact tame_small (by omega) (by omega)) (by rw [List.length_map]; omega)
  have hzTl : Tame (32 * 21) 2 (.list ((zerosZ p es rows).map tI)) := tame_list (w := 20) (k := 1) hzT (by rw [List.length_map]; exact hzl)
  have hzTt : Tame (32 * 21) 2 (.tuple ((zerosZ p es rows).map tI)) := tame_tuple (w := 20) (k := 1) hzT (by rw [List.length_map]; exact hzl)
  have few := fewest_spec hp hn hr he
  have cz := czeros_spec hp hn hr he
  refine i_seq (i_if (i_or (t_repr hrep (p_call args (few.mono fun r e9 h => by rw [h]; rfl)) (i_var g15 ⟨rfl, rfl⟩) (ite_f rfl ?_))))
  refine i_or (i_tst (i_op (i_var g14 (i_fz (i_lst (i_nil ⟨by simp, _, rfl, i_ofO (eqX_list_nil hzTl (by decide)) ⟨_, rfl, ite_f ?_ ?_⟩⟩))))))
  · rw [List.isEmpty_map]
    cases h : zerosZ p es rows with
    | nil => exact absurd h hne
    | cons _ _ => rfl
  refine i_tst (i_op (i_b (i_cons (i_var g14 (i_nil (i_ofO (d := .int ((zerosZ p es rows).length : Nat)) (by show some (PyData.int (((zerosZ p es rows).map tI).length : Nat)) = _; rw [List.length_map]) (i_var g15 (i_ofO ltD_int ⟨_, rfl, ite_f (decide_eq_false (by omega)) (i_next ?_)⟩))))))))
  refine i_seq (i_if (t_repr (hzTt.repr (by decide) (by decide)) (p_call args (cz.mono fun r e9 h => by rw [h]; rfl)) (i_b (i_cons (i_var g14 (i_nil (i_ofO (d := .tuple ((zerosZ p es rows).map tI)) rfl ⟨rfl, rfl⟩))))) (ite_f rfl (i_next ?_))))
  subst hE
  exact cA_ok hd hpn
end K36
namespace K36
open PySem PySem.Spec L2 Lp
theorem const_spec {p v : Int} {n : Nat} {m : Int} (hp : 2 ≤ p) (hn : 1 ≤ n) (hn2 : n ≤ 100) (hm : 0 ≤ m) : Wp (g__law_tidy [.dat (.int p), .dat (dctD (tabD [(List.replicate n 0, v)]))]) fun r _ => ∃ g, r = .dat (polyD g) ∧ PolyOk p n m g ∧ g.length ≤ 1 ∧ ∀ pt, cong p (evF g pt) v := by
  have hok : TabOk n m [(List.replicate n 0, v)] := fun q hq => by
    rw [List.mem_singleton.mp hq]
    exact ⟨by simp, fun x hx => by rw [List.eq_of_mem_replicate hx]; omega⟩
  refine (tidy_spec hp (fun q hq e => ?_) (by simp)).mono fun r e9 h => ?_
  · have := (hok q hq).1
    rw [e] at this
    simp at this; omega
  · subst h
    refine ⟨_, rfl, tidy_ok hp hok, tidy_len _ _, fun pt => ?_⟩
    refine (tidy_ev (by simp) pt).trans ?_
    rw [evF_cons]
    have e0 : mon (List.replicate n (0 : Int)) pt = 1 := by
      unfold mon
      rw [List.map_replicate]
      exact AF.mono_zero n pt
    show cong p (v * mon (List.replicate n 0) pt + 0) v
    rw [e0, Int.mul_one, Int.add_zero]
    exact cong.refl _ _
theorem disp1 (k : List Int) (v : Int) : putAllD [] [(k, PyData.int v)] = tabD [(k, v)] := by
  show putD [] k (.int v) = _
  unfold putD
  rw [if_neg (by show ¬ (false = true); decide)]
  rfl
theorem b1_ok {s : Sl} {c : List Int} {b p : Int} {n : Nat} {es : List (List Tm)} {pt : List Int} {x2 x3 x4 x6 x7 x10 x11 x13 x14 x15 : Sl} (hd : DealOk c b) (hp : Pm p) (hn1 : 1 ≤ n) (hn : n ≤ 5) (he : EqOk p n es) (hl : es.length ≤ 50) (h1 : pt.length = n) (h2 : ∀ x ∈ pt, 0 ≤ x ∧ x < p) (hz : zeroB p es pt = true) :
    Wp (b1_law (Ev s c b x2 x3 x4 (.own (es.map polyD)) x6 x7 (.dat (.int p)) (.dat (.int (n : Nat))) x10 x11 (.dat (tI pt)) x13 x14 x15)) fun r e => r = .next ∧ ∃ (c : List Int) (b : Int) (g : List Tm) (x13 : Sl), DealOk c b ∧ EqOk p n (es ++ [g]) ∧ zeroB p (es ++ [g]) pt = true ∧ e = Ev s c b x2 x3 x4 (.own ((es ++ [g]).map polyD)) x6 x7 (.dat (.int p)) (.dat (.int (n : Nat))) x10 x11 (.dat (tI pt)) x13 x14 x15 := by
  obtain ⟨hp1, hp2⟩ := pm_b hp
  unfold b1_law
  refine i_seq (i_asg (i_fz (i_callIO (c := c) (b := b) (by rfl) (i_cons (i_var (d := .int p) (by rfl) (i_cons (i_var (d := .int (n : Nat)) (by rfl) (i_cons (i_c (i_cons (i_c (i_nil ⟨c, b, rfl, (polynomial_spec (n := n) hd hp1 (by omega) hn1 (by omega) (by decide) (by decide) (by decide) (by decide)).mono fun r e9 h => ?_⟩))))))))))))
  obtain ⟨f, c, b, rfl, hf, hfl, he9, hd⟩ := h
  rw [he9]
  refine ⟨_, rfl, ?_⟩
  show Wp (mApp _ _ (Ev s c b x2 x3 x4 (.own (es.map polyD)) x6 x7 (.dat (.int p)) (.dat (.int (n : Nat))) x10 x11 (.dat (tI pt)) (.dat (polyD f)) x14 x15)) _
  have hfl2 : f.length ≤ 3 := by omega
  refine i_app (ds0 := es.map polyD) (by rfl) (i_fz (i_call (i_cons (i_var (d := .int p) (by rfl) (i_cons (i_var (d := polyD f) (by rfl) (i_cons (i_fz (i_call (i_cons (i_var (d := .int p) (by rfl) (i_cons (i_fzT (i_disp (i_pcons (i_op (i_tup (i_cons (i_c (i_nil ⟨by simp, i_var (d := .int (n : Nat)) (by rfl) (i_ofO (all_mul (by omega)) ?_)⟩))))))))))))))))))))
  refine i_op (i_c (i_fz (i_call (i_cons (i_var (d := .int p) (by rfl) (i_cons (i_var (d := polyD f) (by rfl) (i_cons (i_var (d := tI pt) (by rfl) (i_nil ((worth_spec hp1 hp2 hn (by decide) hf (by omega) h1 h2).mono fun r e9 h => ?_)))))))))))
  subst h
  refine ⟨_, rfl, i_ofO subD_int (i_pnil ⟨[(List.replicate n 0, .int (0 - worthZ p f pt))], ?_, by simp, ?_⟩)⟩
  · show (intsD (List.replicate n (PyData.int 0))).bind (fun k => (some []).map ((k, PyData.int (0 - worthZ p f pt)) :: ·)) = _
    have : (List.replicate n (PyData.int 0)) = (List.replicate n (0 : Int)).map PyData.int := by rw [List.map_replicate]
    rw [this, intsD_map]; rfl
  rw [disp1]
  refine ⟨_, rfl, i_nil ((const_spec (p := p) (v := 0 - worthZ p f pt) (m := 1) hp1 hn1 (by omega) (by decide)).mono fun r e9 h => ?_)⟩
  obtain ⟨k, rfl, k1, k2, k3⟩ := h
  refine ⟨_, rfl, i_nil ((plus_spec hp1 hn1 hf k1 (by omega) (by omega)).mono fun r e9 h => ?_)⟩
  obtain ⟨g, rfl, g1, g2, g3⟩ := h
  refine ⟨_, rfl, es.map polyD, rfl, by rw [List.length_map]; omega, rfl, c, b, g, .dat (polyD f), hd, ⟨by rw [List.length_append]; simp; omega, fun e hem => ?_⟩, ?_, ?_⟩
  · rcases List.mem_append.mp hem with h | h
    · exact he.2 e h
    · rw [List.mem_singleton.mp h]
      exact ⟨g1, by omega⟩
  · unfold zeroB
    rw [List.all_append]
    have hz' : (es.all fun e => decide (evF e pt % p = 0)) = true := hz
    rw [hz', Bool.true_and, List.all_cons, List.all_nil, Bool.and_true]
    have h4 : cong p (evF f pt + evF k pt) 0 := by
      have a := (worth_ev p f pt).symm.add (k3 pt)
      have b : worthZ p f pt + (0 - worthZ p f pt) = 0 := by omega
      rwa [b] at a
    have h5 := ((g3 pt).trans h4).eq
    rw [Int.zero_emod] at h5
    exact decide_eq_true h5
  · rw [List.map_append]; rfl
theorem choices_ne {p : Int} {n : Nat} {rows : List (List Int)} (h : RowsG p n rows) : choicesZ rows ≠ [] := by
  rw [grid_eq]
  have g : ∀ rows : List (List Int), (∀ r ∈ rows, RowG p r) → ∃ c, c ∈ AF.grid rows := by
    intro rows
    induction rows with
    | nil => intro _; exact ⟨[], by simp [AF.grid]⟩
    | cons S R ih =>
      intro hr
      obtain ⟨c, hc⟩ := ih fun r hr2 => hr r (List.mem_cons_of_mem _ hr2)
      have h1 := (hr S (List.mem_cons_self ..)).1
      cases S with
      | nil => simp at h1
      | cons x S => exact ⟨x :: c, List.mem_flatMap.mpr ⟨x, List.mem_cons_self .., List.mem_map.mpr ⟨c, hc, rfl⟩⟩⟩
  obtain ⟨c, hc⟩ := g rows h.2
  exact fun e => by rw [e] at hc; cases hc
theorem cC_ok {s : Sl} {c : List Int} {b p : Int} {n : Nat} {rows : List (List Int)} {x2 x4 x5 x6 x7 x11 x12 x13 x14 x15 : Sl} (hd : DealOk c b) (hpn : (p, n) ∈ PN) (hr : RowsG p n rows) :
    Wp (cC (Ev s c b x2 (.dat (.tuple (rows.map tI))) x4 x5 x6 x7 (.dat (.int p)) (.dat (.int (n : Nat))) (.dat (.tuple ((List.replicate n (upTo p)).map tI))) x11 x12 x13 x14 x15)) fun r e => r = .next ∧ Inv e s := by
  obtain ⟨hp, hn1, hn, h3⟩ := pn_ok hpn
  have hlc : Wp ((mFz (mCall g__law_choices (mCons (mVar 3) mNil))) (Ev s c b x2 (.dat (.tuple (rows.map tI))) x4 x5 x6 x7 (.dat (.int p)) (.dat (.int (n : Nat))) (.dat (.tuple ((List.replicate n (upTo p)).map tI))) x11 x12 x13 x14 x15)) fun d e => d = .list ((choicesZ rows).map tI) ∧ e = Ev s c b x2 (.dat (.tuple (rows.map tI))) x4 x5 x6 x7 (.dat (.int p)) (.dat (.int (n : Nat))) (.dat (.tuple ((List.replicate n (upTo p)).map tI))) x11 x12 x13 x14 x15 :=
    p_call (ds := [.tuple (rows.map tI)]) (i_cons (i_var (d := .tuple (rows.map tI)) (by rfl) (i_nil ⟨rfl, rfl⟩))) ((lchoices_spec (by rw [hr.1]; exact hn) (rows_len hp hr)).mono fun r e9 h => by rw [h]; rfl)
  have h32 := choices_32 hpn hr
  unfold cC
  refine i_seq (i_par2 (i_lst (i_nil ⟨by simp, i_od (i_fz (wp_of (i := 1) (ds := (choicesZ rows).map tI) (by rfl) hd hlc (fun e => choices_ne hr (List.map_eq_nil_iff.mp e)) (by rw [List.length_map]; omega) fun d c b hm hd => ⟨_, rfl, ?_⟩))⟩)))
  obtain ⟨pt, hpt, rfl⟩ := List.mem_map.mp hm
  obtain ⟨p1, p2⟩ := pt_of hr hpt
  show Wp (mSeq _ _ (Ev s c b x2 (.dat (.tuple (rows.map tI))) x4 (.own []) x6 x7 (.dat (.int p)) (.dat (.int (n : Nat))) (.dat (.tuple ((List.replicate n (upTo p)).map tI))) x11 (.dat (tI pt)) x13 x14 x15)) _
  refine i_seq (i_for (i_itO (i_cons (i_fz (wp_any (i := 1) (k := 3) (by rfl) hd (i_c ⟨rfl, rfl⟩) (by decide) (by decide) fun z c b z0 z1 hd => ⟨_, rfl, i_nil ⟨_, rg1_int (inR_of (by omega) (by omega)), ?_⟩⟩)))))
  refine wp_forN (fun j e => ∃ (c : List Int) (b : Int) (es : List (List Tm)) (x4 x13 : Sl), DealOk c b ∧ EqOk p n es ∧ es.length = j ∧ zeroB p es pt = true ∧ e = Ev s c b x2 (.dat (.tuple (rows.map tI))) x4 (.own (es.map polyD)) x6 x7 (.dat (.int p)) (.dat (.int (n : Nat))) (.dat (.tuple ((List.replicate n (upTo p)).map tI))) x11 (.dat (tI pt)) x13 x14 x15) ⟨c, b, [], x4, x13, hd, ⟨by simp, by simp⟩, rfl, rfl, rfl⟩ (fun j y e hx hi => ?_) fun e hi => ?_
  · obtain ⟨c, b, es, x4, x13, hd, he, hel, hz, rfl⟩ := hi
    have hj : j < z.toNat := by
      have := (List.getElem?_eq_some_iff.mp hx).1
      rwa [rng_len] at this
    refine ⟨_, rfl, (b1_ok (x4 := .dat y) hd hp hn1 hn he (by omega) p1 p2 hz).mono fun r e h => ?_⟩
    obtain ⟨rfl, c, b, g, x13, hd, he2, hz2, rfl⟩ := h
    exact ⟨rfl, c, b, es ++ [g], .dat y, x13, hd, he2, by rw [List.length_append, hel]; rfl, hz2, rfl⟩
  obtain ⟨c, b, es, x4, x13, hd, he, hel, hz, rfl⟩ := hi
  show Wp (mSeq _ _ _) _
  refine i_seq (i_asg (i_b (i_cons (i_varO (ds := es.map polyD) (by rfl) (i_nil (i_ofO (d := .tuple (es.map polyD)) rfl ?_))))))
  show Wp (cB (Ev s c b x2 (.dat (.tuple (rows.map tI))) x4 (.dat (.tuple (es.map polyD))) x6 x7 (.dat (.int p)) (.dat (.int (n : Nat))) (.dat (.tuple ((List.replicate n (upTo p)).map tI))) x11 (.dat (tI pt)) x13 x14 x15)) _
  exact cB_ok hd hpn hr he ⟨pt, hpt, hz⟩
theorem b2_ok {s : Sl} {c : List Int} {b : Int} {x2 x3 x4 x5 x6 x7 x8 x9 x10 x11 x12 x13 x14 x15 : Sl} (hd : DealOk c b) : Wp (b2_law (Ev s c b x2 x3 x4 x5 x6 x7 x8 x9 x10 x11 x12 x13 x14 x15)) fun r e => r = .next ∧ Inv e s := by
  unfold b2_law
  refine i_seq (i_asgT (i_fz (wp_of (i := 1) (ds := PN.map fun q => .tuple [.int q.1, .int (q.2 : Nat)]) (by rfl) hd ?_ (by simp) (by simp) fun pd c b hm hd => ⟨_, rfl, ?_⟩)))
  · repeat (first
        | (with_reducible (first
          | refine i_seq ?_ | refine i_asg ?_ | refine i_asgO ?_ | refine i_asgT ?_ | refine i_ret ?_ | refine i_retO ?_ | refine i_do ?_ | refine i_if ?_ | refine i_next ?_ | refine i_brk ?_ | refine i_cnt ?_ | refine i_retN ?_
          | refine i_c ?_ | refine i_un ?_ | refine i_op ?_ | refine i_b ?_ | refine i_nil ?_ | refine i_cons ?_ | refine i_tst ?_ | refine i_and ?_ | refine i_or ?_ | refine i_not ?_ | refine i_ofT ?_ | refine i_ifE ?_ | refine i_andV ?_ | refine i_orV ?_ | refine i_notV ?_
          | refine i_isi ?_ | refine i_tup ?_ | refine i_lst ?_ | refine i_bO ?_ | refine i_fz ?_ | refine i_od ?_ | refine i_chain ?_ | refine i_call ?_ | refine i_perm ?_ | refine i_for ?_ | refine i_comp ?_ | refine i_it ?_ | refine i_itO ?_ | refine i_yes ?_))
        | (((with_reducible apply i_var); case hv => rfl))
        | ((with_reducible apply i_ofO); case ho => first | (with_reducible first | exact addD_int | exact subD_int | exact eqX_int | exact neX_int | exact eqX_str | exact neX_str | exact ltD_int | exact leD_int | exact gtD_int | exact geD_int | exact negD_int | exact intD_int | exact absD_int | exact reprD_bool | exact reprD_none) | assumption)
        | (with_reducible refine ⟨_, (by assumption : rg1 _ = some _), ?_⟩) | (with_reducible refine ⟨_, (by assumption : rg2 _ = some _), ?_⟩) | (with_reducible refine ⟨_, rg1_int (by decide), ?_⟩) | (with_reducible refine ⟨_, rg2_int (by decide) (by decide), ?_⟩)
        | (with_reducible refine ⟨_, rfl, ?_⟩)
        | ((with_reducible apply ite_t); case h => first | (with_reducible rfl) | assumption)
        | ((with_reducible apply ite_f); case h => first | (with_reducible rfl) | assumption)
        | ((with_reducible apply And.intro); case left => first | rfl | decide | exact Nat.le_of_ble_eq_true rfl))
    rfl
  obtain ⟨⟨p, n⟩, hpn, rfl⟩ := List.mem_map.mp hm
  obtain ⟨hp, hn1, hn, h3⟩ := pn_ok hpn
  obtain ⟨hp1, hp2⟩ := pm_b hp
  refine ⟨_, rfl, ?_⟩
  show Wp (mSeq _ _ (Ev s c b x2 x3 x4 x5 x6 x7 (.dat (.int p)) (.dat (.int (n : Nat))) x10 x11 x12 x13 x14 x15)) _
  refine i_seq (i_par2 (i_od (every_spec (n := n) hp1 (by omega) (by omega) (i_var (d := .int p) (by rfl) ⟨rfl, rfl⟩) (i_var (d := .int (n : Nat)) (by rfl) ⟨rfl, rfl⟩) ?_)))
  refine i_od (i_fz (wp_any (i := 1) (k := 3) (by rfl) hd (i_c ⟨rfl, rfl⟩) (by decide) (by decide) fun form c b f0 f1 hd => ⟨_, rfl, ?_⟩))
  show Wp (mSeq _ _ (Ev s c b x2 x3 x4 x5 x6 x7 (.dat (.int p)) (.dat (.int (n : Nat))) (.dat (.tuple ((List.replicate n (upTo p)).map tI))) (.dat (.int form)) x12 x13 x14 x15)) _
  refine i_seq (i_asg (Wp.mono (Q := fun d e => ∃ (rows : List (List Int)) (c : List Int) (b : Int), d = .tuple (rows.map tI) ∧ RowsG p n rows ∧ DealOk c b ∧ e = Ev s c b x2 x3 x4 x5 x6 x7 (.dat (.int p)) (.dat (.int (n : Nat))) (.dat (.tuple ((List.replicate n (upTo p)).map tI))) (.dat (.int form)) x12 x13 x14 x15) ?_ fun d e h => ?_))
  · refine i_ifE (i_tst (i_op (i_var (d := .int form) (by rfl) (i_c (i_ofO eqX_int ⟨_, rfl, ite_b (fun z => ?_) fun z => ?_⟩)))))
    · exact i_var (d := .tuple ((List.replicate n (upTo p)).map tI)) (by rfl) ⟨_, c, b, rfl, every_ok hp, hd, rfl⟩
    refine i_ifE (i_tst (i_op (i_var (d := .int form) (by rfl) (i_c (i_ofO eqX_int ⟨_, rfl, ite_b (fun z2 => ?_) fun z2 => ?_⟩)))))
    · refine i_op (i_tup (i_cons (i_tup (i_cons (i_c (i_cons (i_c (i_nil ⟨by simp, i_nil ⟨by simp, i_var (d := .int (n : Nat)) (by rfl) (i_ofO (all_mul (by omega)) ?_)⟩⟩))))))))
      refine ⟨List.replicate n [0, 1], c, b, by rw [List.map_replicate]; rfl, ⟨by simp, fun r hr => ?_⟩, hd, rfl⟩
      rw [List.eq_of_mem_replicate hr]
      refine ⟨by simp, by simp; omega, by simp, fun x hx => ?_⟩
      simp only [List.mem_cons, List.not_mem_nil, or_false] at hx
      omega
    · refine i_fz (i_callIO (c := c) (b := b) (by rfl) (i_cons (i_var (d := .int p) (by rfl) (i_cons (i_var (d := .int (n : Nat)) (by rfl) (i_cons (i_c (i_nil ⟨c, b, rfl, (lists_spec (n := n) hd hp (by omega)).mono fun r e9 h => ?_⟩))))))))
      obtain ⟨rows, c, b, rfl, hrl, hro, he9, hd⟩ := h
      rw [he9]
      exact ⟨_, rfl, rows, c, b, rfl, ⟨hrl, hro⟩, hd, rfl⟩
  obtain ⟨rows, c, b, rfl, hr, hd, rfl⟩ := h
  show Wp (cC (Ev s c b x2 (.dat (.tuple (rows.map tI))) x4 x5 x6 x7 (.dat (.int p)) (.dat (.int (n : Nat))) (.dat (.tuple ((List.replicate n (upTo p)).map tI))) (.dat (.int form)) x12 x13 x14 x15)) _
  exact cC_ok hd hpn hr
theorem law_ok (ns : List Int) : ∃ e, g_law [.scr ns] = .ok (.dat (.bool true)) e := by
  have main : Wp (g_law [.scr ns]) fun r _ => r = .dat (.bool true) := by
    have hr3 : rg1 [.int 3] = some (rng 0 3) := rg1_int (by decide)
    refine (wp_gOf (by rfl)).mpr ?_
    unfold m_law
    refine i_seq (i_asgO (wp_draw (i := 0) (salt := 36) (by rfl) (by simp) (by decide) (by decide) fun c b s hd => ?_))
    refine i_seq (i_for (i_itO (i_cons (i_c (i_nil ⟨_, hr3, ?_⟩)))))
    refine wp_forN (fun n e => Inv e s) ⟨_, _, _, _, _, _, _, _, _, _, _, _, _, _, _, _, hd, rfl⟩ (fun j x e hx hi => ?_) fun e hi => ?_
    · obtain ⟨c, b, x2, x3, x4, x5, x6, x7, x8, x9, x10, x11, x12, x13, x14, x15, hd, rfl⟩ := hi
      exact ⟨_, rfl, b2_ok (x2 := .dat x) hd⟩
    exact i_ret (i_c rfl)
  obtain ⟨r, e, h, rfl⟩ := main.ex
  exact ⟨e, h⟩
end K36
namespace K36
open PySem PySem.Spec PyProof.Rows L2 Lp
/-! ### the head -/
def dd__law_draw : He.DefD := ⟨("_law_draw", none), "_law_draw", "_law_draw", defArgs s__law_draw, defBody s__law_draw, defScope s__law_draw, [], []⟩
def dd__law_any : He.DefD := ⟨("_law_any", none), "_law_any", "_law_any", defArgs s__law_any, defBody s__law_any, defScope s__law_any, [], []⟩
def dd__law_of : He.DefD := ⟨("_law_of", none), "_law_of", "_law_of", defArgs s__law_of, defBody s__law_of, defScope s__law_of, [], []⟩
def dd_unknown : He.DefD := ⟨("unknown", none), "unknown", "unknown", defArgs s_unknown, defBody s_unknown, defScope s_unknown, [], []⟩
def dd_zero_unknowns : He.DefD := ⟨("zero_unknowns", none), "zero_unknowns", "zero_unknowns", defArgs s_zero_unknowns, defBody s_zero_unknowns, defScope s_zero_unknowns, [], []⟩
def dd__law_element : He.DefD := ⟨("_law_element", none), "_law_element", "_law_element", defArgs s__law_element, defBody s__law_element, defScope s__law_element, [], []⟩
def dd__law_tidy : He.DefD := ⟨("_law_tidy", none), "_law_tidy", "_law_tidy", defArgs s__law_tidy, defBody s__law_tidy, defScope s__law_tidy, [], []⟩
def dd__law_some : He.DefD := ⟨("_law_some", none), "_law_some", "_law_some", defArgs s__law_some, defBody s__law_some, defScope s__law_some, [], []⟩
def dd__law_polynomial : He.DefD := ⟨("_law_polynomial", none), "_law_polynomial", "_law_polynomial", defArgs s__law_polynomial, defBody s__law_polynomial, defScope s__law_polynomial, [], []⟩
def dd__law_choices : He.DefD := ⟨("_law_choices", none), "_law_choices", "_law_choices", defArgs s__law_choices, defBody s__law_choices, defScope s__law_choices, [], []⟩
def dd__law_power : He.DefD := ⟨("_law_power", none), "_law_power", "_law_power", defArgs s__law_power, defBody s__law_power, defScope s__law_power, [], []⟩
def dd__law_worth : He.DefD := ⟨("_law_worth", none), "_law_worth", "_law_worth", defArgs s__law_worth, defBody s__law_worth, defScope s__law_worth, [], []⟩
def dd__law_zeros : He.DefD := ⟨("_law_zeros", none), "_law_zeros", "_law_zeros", defArgs s__law_zeros, defBody s__law_zeros, defScope s__law_zeros, [], []⟩
def dd__law_product : He.DefD := ⟨("_law_product", none), "_law_product", "_law_product", defArgs s__law_product, defBody s__law_product, defScope s__law_product, [], []⟩
def dd__law_mixed : He.DefD := ⟨("_law_mixed", none), "_law_mixed", "_law_mixed", defArgs s__law_mixed, defBody s__law_mixed, defScope s__law_mixed, [], []⟩
def dd__law_lists : He.DefD := ⟨("_law_lists", none), "_law_lists", "_law_lists", defArgs s__law_lists, defBody s__law_lists, defScope s__law_lists, [], []⟩
def dd__law_plus : He.DefD := ⟨("_law_plus", none), "_law_plus", "_law_plus", defArgs s__law_plus, defBody s__law_plus, defScope s__law_plus, [], []⟩
def dd__law_least : He.DefD := ⟨("_law_least", none), "_law_least", "_law_least", defArgs s__law_least, defBody s__law_least, defScope s__law_least, [], []⟩
def dd_choice_count : He.DefD := ⟨("choice_count", none), "choice_count", "choice_count", defArgs s_choice_count, defBody s_choice_count, defScope s_choice_count, [], []⟩
def dd_choices : He.DefD := ⟨("choices", none), "choices", "choices", defArgs s_choices, defBody s_choices, defScope s_choices, [], []⟩
def dd_element : He.DefD := ⟨("element", none), "element", "element", defArgs s_element, defBody s_element, defScope s_element, [], []⟩
def dd_raised : He.DefD := ⟨("raised", none), "raised", "raised", defArgs s_raised, defBody s_raised, defScope s_raised, [], []⟩
def dd_worth : He.DefD := ⟨("worth", none), "worth", "worth", defArgs s_worth, defBody s_worth, defScope s_worth, [], []⟩
def dd_common_zeros : He.DefD := ⟨("common_zeros", none), "common_zeros", "common_zeros", defArgs s_common_zeros, defBody s_common_zeros, defScope s_common_zeros, [], []⟩
def dd_product_of : He.DefD := ⟨("product_of", none), "product_of", "product_of", defArgs s_product_of, defBody s_product_of, defScope s_product_of, [], []⟩
def dd_least_shape : He.DefD := ⟨("least_shape", none), "least_shape", "least_shape", defArgs s_least_shape, defBody s_least_shape, defScope s_least_shape, [], []⟩
def dd_least_picks : He.DefD := ⟨("least_picks", none), "least_picks", "least_picks", defArgs s_least_picks, defBody s_least_picks, defScope s_least_picks, [], []⟩
def dd_lengths_of : He.DefD := ⟨("lengths_of", none), "lengths_of", "lengths_of", defArgs s_lengths_of, defBody s_lengths_of, defScope s_lengths_of, [], []⟩
def dd_degree : He.DefD := ⟨("degree", none), "degree", "degree", defArgs s_degree, defBody s_degree, defScope s_degree, [], []⟩
def dd_load : He.DefD := ⟨("load", none), "load", "load", defArgs s_load, defBody s_load, defScope s_load, [], []⟩
def dd_fewest_zeros : He.DefD := ⟨("fewest_zeros", none), "fewest_zeros", "fewest_zeros", defArgs s_fewest_zeros, defBody s_fewest_zeros, defScope s_fewest_zeros, [], []⟩
def dd__law_lengths : He.DefD := ⟨("_law_lengths", none), "_law_lengths", "_law_lengths", defArgs s__law_lengths, defBody s__law_lengths, defScope s__law_lengths, [], []⟩
def dd__law_degree : He.DefD := ⟨("_law_degree", none), "_law_degree", "_law_degree", defArgs s__law_degree, defBody s__law_degree, defScope s__law_degree, [], []⟩
def dd__law_load : He.DefD := ⟨("_law_load", none), "_law_load", "_law_load", defArgs s__law_load, defBody s__law_load, defScope s__law_load, [], []⟩
def dd_law : He.DefD := ⟨("law", none), "law", "law", defArgs s_law, defBody s_law, defScope s_law, [], []⟩
def fn : List He.DefD := [dd__law_draw, dd__law_any, dd__law_of, dd_unknown, dd_zero_unknowns, dd__law_element, dd__law_tidy, dd__law_some, dd__law_polynomial, dd__law_choices, dd__law_power, dd__law_worth, dd__law_zeros, dd__law_product, dd__law_mixed, dd__law_lists, dd__law_plus, dd__law_least, dd_choice_count, dd_choices, dd_element, dd_raised, dd_worth, dd_common_zeros, dd_product_of, dd_least_shape, dd_least_picks, dd_lengths_of, dd_degree, dd_load, dd_fewest_zeros, dd__law_lengths, dd__law_degree, dd__law_load, dd_law]
def fa : List He.Fa := [.glo "_law_draw", .glo "_law_any", .glo "_law_of", .glo "unknown", .glo "zero_unknowns", .glo "_law_element", .glo "_law_tidy", .glo "_law_some", .glo "_law_polynomial", .glo "_law_choices", .glo "_law_power", .glo "_law_worth", .glo "_law_zeros", .glo "_law_product", .glo "_law_mixed", .glo "_law_lists", .glo "_law_plus", .glo "_law_least", .glo "choice_count", .glo "choices", .glo "element", .glo "raised", .glo "worth", .glo "common_zeros", .glo "product_of", .glo "least_shape", .glo "least_picks", .glo "lengths_of", .glo "degree", .glo "load", .glo "fewest_zeros", .glo "_law_lengths", .glo "_law_degree", .glo "_law_load", .glo "law", .free "abs", .free "all", .free "enumerate", .free "int", .free "len", .free "list", .free "max", .free "min", .free "range", .free "repr", .free "sorted", .free "sum", .free "tuple", .free "zip", .int "MOST_CHOICES" 20000]
abbrev R : PySem.W.OpenRow := PySem.W.OpenLaw.row PySem.Challenge.rw_listpicks_k36_whole_how_many_common_zero
abbrev hk : PySem.W.Hook := He.hookD 4 fa fn
def ob (s : PySem.W.SharedT) : He.AlD := He.obsDG 4 fa fn (HandSHeadRun.getT s)
theorem ob_eq (s : PySem.W.SharedT) : ob s = hk.obs s.abs := He.obsDG_eq (HandSHeadRun.getT_eq s)
abbrev lo : List PySem.Str := (["PickError", "Refused", "element", "degree", "unknown", "raised", "worth", "least_shape", "product_of", "least_picks", "lengths_of", "MOST_CHOICES", "choice_count", "choices", "common_zeros", "load", "fewest_zeros", "zero_unknowns", "_law_draw", "_law_any", "_law_of", "_law_mixed", "_law_element", "_law_some", "_law_lists", "_law_tidy", "_law_polynomial", "_law_plus", "_law_power", "_law_worth"] : List PySem.Str) ++ (["_law_choices", "_law_degree", "_law_product", "_law_lengths", "_law_least", "_law_zeros", "_law_load"] : List PySem.Str)
theorem run (w : World) : HandSHeadRun.RunEq R (PySem.W.view R.prog [45]) hk ob 4000 lo w := by
  intro os
  kernel_rfl
theorem facts {K : PySem.W.Frag} {h : Heap} {mg : Str → Option Value} {f : Addr} (X : K.In h) (G : h.Ns mainGlobals mg) (hfa : mg ("law" : Str) = some (.ref f)) (c : He.SaysD fa fn K) :
    ∃ z : Facts K mg, z.f_law = f ∧ ∀ (s : Shared) (v : Value), BindsTo s z.d_law ⟨[v], []⟩ [("script", v)] := by
  obtain ⟨d0, D0⟩ := c.def_ 0 (d := dd__law_draw) rfl
  obtain ⟨d1, D1⟩ := c.def_ 1 (d := dd__law_any) rfl
  obtain ⟨d2, D2⟩ := c.def_ 2 (d := dd__law_of) rfl
  obtain ⟨d3, D3⟩ := c.def_ 3 (d := dd_unknown) rfl
  obtain ⟨d4, D4⟩ := c.def_ 4 (d := dd_zero_unknowns) rfl
  obtain ⟨d5, D5⟩ := c.def_ 5 (d := dd__law_element) rfl
  obtain ⟨d6, D6⟩ := c.def_ 6 (d := dd__law_tidy) rfl
  obtain ⟨d7, D7⟩ := c.def_ 7 (d := dd__law_some) rfl
  obtain ⟨d8, D8⟩ := c.def_ 8 (d := dd__law_polynomial) rfl
  obtain ⟨d9, D9⟩ := c.def_ 9 (d := dd__law_choices) rfl
  obtain ⟨d10, D10⟩ := c.def_ 10 (d := dd__law_power) rfl
  obtain ⟨d11, D11⟩ := c.def_ 11 (d := dd__law_worth) rfl
  obtain ⟨d12, D12⟩ := c.def_ 12 (d := dd__law_zeros) rfl
  obtain ⟨d13, D13⟩ := c.def_ 13 (d := dd__law_product) rfl
  obtain ⟨d14, D14⟩ := c.def_ 14 (d := dd__law_mixed) rfl
  obtain ⟨d15, D15⟩ := c.def_ 15 (d := dd__law_lists) rfl
  obtain ⟨d16, D16⟩ := c.def_ 16 (d := dd__law_plus) rfl
  obtain ⟨d17, D17⟩ := c.def_ 17 (d := dd__law_least) rfl
  obtain ⟨d18, D18⟩ := c.def_ 18 (d := dd_choice_count) rfl
  obtain ⟨d19, D19⟩ := c.def_ 19 (d := dd_choices) rfl
  obtain ⟨d20, D20⟩ := c.def_ 20 (d := dd_element) rfl
  obtain ⟨d21, D21⟩ := c.def_ 21 (d := dd_raised) rfl
  obtain ⟨d22, D22⟩ := c.def_ 22 (d := dd_worth) rfl
  obtain ⟨d23, D23⟩ := c.def_ 23 (d := dd_common_zeros) rfl
  obtain ⟨d24, D24⟩ := c.def_ 24 (d := dd_product_of) rfl
  obtain ⟨d25, D25⟩ := c.def_ 25 (d := dd_least_shape) rfl
  obtain ⟨d26, D26⟩ := c.def_ 26 (d := dd_least_picks) rfl
  obtain ⟨d27, D27⟩ := c.def_ 27 (d := dd_lengths_of) rfl
  obtain ⟨d28, D28⟩ := c.def_ 28 (d := dd_degree) rfl
  obtain ⟨d29, D29⟩ := c.def_ 29 (d := dd_load) rfl
  obtain ⟨d30, D30⟩ := c.def_ 30 (d := dd_fewest_zeros) rfl
  obtain ⟨d31, D31⟩ := c.def_ 31 (d := dd__law_lengths) rfl
  obtain ⟨d32, D32⟩ := c.def_ 32 (d := dd__law_degree) rfl
  obtain ⟨d33, D33⟩ := c.def_ 33 (d := dd__law_load) rfl
  obtain ⟨d34, D34⟩ := c.def_ 34 (d := dd_law) rfl
  obtain ⟨t0, T0⟩ := He.int_ok X G (c.fact 49 (f := .int "MOST_CHOICES" 20000) rfl)
  have b := FunD.bindsA (ps := ["script"]) D34 fun _ _ _ _ _ _ us hl => match us, hl with | [_], _ => rfl
  refine ⟨⟨_, d0, D0, He.glo_ok X G (c.fact 0 (f := .glo "_law_draw") rfl), _, d1, D1, He.glo_ok X G (c.fact 1 (f := .glo "_law_any") rfl), _, d2, D2, He.glo_ok X G (c.fact 2 (f := .glo "_law_of") rfl), _, d3, D3, He.glo_ok X G (c.fact 3 (f := .glo "unknown") rfl), _, d4, D4, He.glo_ok X G (c.fact 4 (f := .glo "zero_unknowns") rfl), _, d5, D5, He.glo_ok X G (c.fact 5 (f := .glo "_law_element") rfl), _, d6, D6, He.glo_ok X G (c.fact 6 (f := .glo "_law_tidy") rfl), _, d7, D7, He.glo_ok X G (c.fact 7 (f := .glo "_law_some") rfl), _, d8, D8, He.glo_ok X G (c.fact 8 (f := .glo "_law_polynomial") rfl), _, d9, D9, He.glo_ok X G (c.fact 9 (f := .glo "_law_choices") rfl), _, d10, D10, He.glo_ok X G (c.fact 10 (f := .glo "_law_power") rfl), _, d11, D11, He.glo_ok X G (c.fact 11 (f := .glo "_law_worth") rfl), _, d12, D12, He.glo_ok X G (c.fact 12 (f := .glo "_law_zeros") rfl), _, d13, D13, He.glo_ok X G (c.fact 13 (f := .glo "_law_product") rfl), _, d14, D14, He.glo_ok X G (c.fact 14 (f := .glo "_law_mixed") rfl), _, d15, D15, He.glo_ok X G (c.fact 15 (f := .glo "_law_lists") rfl), _, d16, D16, He.glo_ok X G (c.fact 16 (f := .glo "_law_plus") rfl), _, d17, D17, He.glo_ok X G (c.fact 17 (f := .glo "_law_least") rfl), _, d18, D18, He.glo_ok X G (c.fact 18 (f := .glo "choice_count") rfl), _, d19, D19, He.glo_ok X G (c.fact 19 (f := .glo "choices") rfl), _, d20, D20, He.glo_ok X G (c.fact 20 (f := .glo "element") rfl), _, d21, D21, He.glo_ok X G (c.fact 21 (f := .glo "raised") rfl), _, d22, D22, He.glo_ok X G (c.fact 22 (f := .glo "worth") rfl), _, d23, D23, He.glo_ok X G (c.fact 23 (f := .glo "common_zeros") rfl), _, d24, D24, He.glo_ok X G (c.fact 24 (f := .glo "product_of") rfl), _, d25, D25, He.glo_ok X G (c.fact 25 (f := .glo "least_shape") rfl), _, d26, D26, He.glo_ok X G (c.fact 26 (f := .glo "least_picks") rfl), _, d27, D27, He.glo_ok X G (c.fact 27 (f := .glo "lengths_of") rfl), _, d28, D28, He.glo_ok X G (c.fact 28 (f := .glo "degree") rfl), _, d29, D29, He.glo_ok X G (c.fact 29 (f := .glo "load") rfl), _, d30, D30, He.glo_ok X G (c.fact 30 (f := .glo "fewest_zeros") rfl), _, d31, D31, He.glo_ok X G (c.fact 31 (f := .glo "_law_lengths") rfl), _, d32, D32, He.glo_ok X G (c.fact 32 (f := .glo "_law_degree") rfl), _, d33, D33, He.glo_ok X G (c.fact 33 (f := .glo "_law_load") rfl), _, d34, D34, He.glo_ok X G (c.fact 34 (f := .glo "law") rfl), He.free_ok X G (c.fact 35 (f := .free "abs") rfl), He.free_ok X G (c.fact 36 (f := .free "all") rfl), He.free_ok X G (c.fact 37 (f := .free "enumerate") rfl), He.free_ok X G (c.fact 38 (f := .free "int") rfl), He.free_ok X G (c.fact 39 (f := .free "len") rfl), He.free_ok X G (c.fact 40 (f := .free "list") rfl), He.free_ok X G (c.fact 41 (f := .free "max") rfl), He.free_ok X G (c.fact 42 (f := .free "min") rfl), He.free_ok X G (c.fact 43 (f := .free "range") rfl), He.free_ok X G (c.fact 44 (f := .free "repr") rfl), He.free_ok X G (c.fact 45 (f := .free "sorted") rfl), He.free_ok X G (c.fact 46 (f := .free "sum") rfl), He.free_ok X G (c.fact 47 (f := .free "tuple") rfl), He.free_ok X G (c.fact 48 (f := .free "zip") rfl), t0, T0⟩, ?_, fun s v => b s [v] rfl⟩
  have e := hfa.symm.trans (He.glo_ok X G (c.fact 34 (f := .glo "law") rfl))
  cases e
  rfl
end K36
open PySem PySem.W PySem.Calls PyProof.Rows
theorem PySem.Challenge.cw_listpicks_k36_whole_how_many_common_zero_holds : PySem.Challenge.rw_listpicks_k36_whole_how_many_common_zero.Holds := by
  w_on; o_law
  refine HandSHeadRun.head_any (r := OpenLaw.row PySem.Challenge.rw_listpicks_k36_whole_how_many_common_zero) (q := view (OpenLaw.row PySem.Challenge.rw_listpicks_k36_whole_how_many_common_zero).prog [45]) (H := K36.hk) (ob := K36.ob) (M := 4000) (loose := K36.lo) (d := HandSHeadRun.topDef (OpenLaw.row PySem.Challenge.rw_listpicks_k36_whole_how_many_common_zero).prog 45) (kwd := []) K36.ob_eq
    (by kernel_rfl) (fun s => by kernel_rfl) K36.run (by kernel_rfl) (by kernel_rfl) (by kernel_rfl) (by rfl) (by first | assumption | decide +kernel) (by decide +kernel) ⟨rfl, rfl, rfl, rfl, rfl, by decide +kernel⟩ ?hw ?hc
  case hw => w_witness2
  case hc =>
    refine Lp.walk_ofG (l := PySem.Challenge.rw_listpicks_k36_whole_how_many_common_zero) (n := 63) (k := 5) (x := "script") rfl (by decide) (by kernel_rfl) ⟨rfl, by decide, by decide⟩ ?F
    intro w mg fa h Y G hmg0
    obtain ⟨K, KX, c⟩ := Y
    have hmg : mg ("law" : PySem.Str) = some (.ref fa) := by
      have e : (HandSHeadRun.topDef (OpenLaw.row PySem.Challenge.rw_listpicks_k36_whole_how_many_common_zero).prog 45).name = ("law" : PySem.Str) := by kernel_rfl
      rw [← e]
      exact hmg0
    obtain ⟨z, rfl, hb⟩ := K36.facts KX G hmg c
    exact ⟨K, z.d_law, fun _ => .none, K36.g_law, KX, hb, fun ns _ => K36.law_ok ns, fun base _ _ => K36.ok_law z⟩
