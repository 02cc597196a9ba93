import PyProof.Rows.All
import HandS.ForMost
import HandS.ForExc
import HandS.TryMany
import HandS.ExcInit
import HandS.ExcField
import HandS.CallSlots
import HandS.Style
import HandS.Wide
import HandS.WideBits
import HandS.Gcd
import HandS.IsInst
import HandS.Deep
import HandS.TupAny
import HandS.TupMul
import HandS.ClsMeth
import HandS.CallLocal
import OpenK.KOps
import HandS.FStr
import HandS.MakeKwOnly
import HandS.RaiseMore
import HandS.HeadHook1
import HandS.EndBits
import HandS.Defaults
import PySem.Challenge.RW_fourread_k05_shares
set_option Elab.async false
set_option linter.all false
set_option maxRecDepth 100000
set_option maxHeartbeats 4000000
/-! The functional layer: a def's body as a total function of data and cells. -/
namespace FL
open PySem PySem.Spec PyProof.Rows L2

/-! ### data -/
inductive D where
  | non | bl (b : Bool) | int (i : Int) | str (x : Str) | tup (ds : List D) | lst (ds : List D) | scr (ds : List D)
  | ins (C : Nat) (fs : List (Str × D)) | ty (n : String) | cl (C : Nat)
inductive Val where
  | d (x : D) | rf (i : Nat)
inductive Cell where
  | dead | lst (ds : List D) | nst (js : List Nat) | ins (C : Nat) (fs : List (Str × D)) | dic (kvs : List (D × D))
structure S where
  r : List (Option Val)
  c : List Cell
structure Exn where
  C : Nat
  fs : List (Str × D)
inductive Res (α : Type) where
  | ok (a : α) (s : S) | exc (x : Exn) (s : S) | bad
inductive SRes where
  | nx (s : S) | ret (v : Val) (s : S) | brk (s : S) | ct (s : S) | exc (x : Exn) (s : S) | bad
inductive FRes where
  | ok (v : Val) (c : List Cell) | exc (x : Exn) (c : List Cell) | bad

/-- what names classes -/
structure Exi where
  i : Nat
  a : Addr
  cls : Value
  dd : Option Addr
  x : Exn
structure Gx where
  K : PySem.W.Frag
  cl : Nat → Addr
  ex : Option Exi := none

/-! ### how data lies in the heap -/
mutual
inductive Rep (G : Gx) (H : Hp) : V → D → Prop
  | non : Rep G H .non .non
  | bl (b : Bool) : Rep G H (.bl b) (.bl b)
  | int (i : Int) : Rep G H (.int i) (.int i)
  | str (x : Str) : Rep G H (.str x) (.str x)
  | ty (n : String) : Rep G H (.ty n) (.ty n)
  | cl (C : Nat) : Rep G H (.ref (G.cl C)) (.cl C)
  | tup {a : Addr} {xs : List V} {ds : List D} : SqT G.K H a xs → RepL G H xs ds → Rep G H (.ref a) (.tup ds)
  | lst {a : Addr} {xs : List V} {ds : List D} : H a = some (.lst xs) → RepL G H xs ds → Rep G H (.ref a) (.lst ds)
  | scr {a : Addr} {xs : List V} {ds : List D} : SqL G.K H a xs → RepL G H xs ds → Rep G H (.ref a) (.scr ds)
  | ins {a dx : Addr} {C : Nat} {fs : List (Str × V)} {gs : List (Str × D)} : H a = some (.ins (G.cl C) dx fs) → fs.map (·.1) = gs.map (·.1) → RepL G H (fs.map (·.2)) (gs.map (·.2)) → Rep G H (.ref a) (.ins C gs)
inductive RepL (G : Gx) (H : Hp) : List V → List D → Prop
  | nil : RepL G H [] []
  | cons {v : V} {vs : List V} {d : D} {ds : List D} : Rep G H v d → RepL G H vs ds → RepL G H (v :: vs) (d :: ds)
end

def Exd (H H' : Hp) : Prop := ∀ a o, H a = some o → H' a = some o
theorem Exd.refl (H : Hp) : Exd H H := fun _ _ h => h
theorem Exd.trans {H H1 H2 : Hp} (a : Exd H H1) (b : Exd H1 H2) : Exd H H2 := fun x o h => b x o (a x o h)
theorem Exd.new {H : Hp} {p : Addr} {o : HO} (h : H p = none) : Exd H (upd H p o) := fun a u e => by
  rw [upd_ne (ne_of_none e h)]; exact e
theorem Exd.rd {H H' : Hp} {a : Addr} {u : HO} (e : Exd H H') (h : Rd H a u) : Rd H' a u := by
  rcases h with h | ⟨o, h⟩
  · exact .inl (e a _ h)
  · exact .inr ⟨o, e a _ h⟩
theorem Exd.l {K : PySem.W.Frag} {H H' : Hp} {a : Addr} {xs : List V} (e : Exd H H') (h : SqL K H a xs) : SqL K H' a xs := by
  rcases h with h | h
  · exact .inl (e.rd h)
  · exact .inr h
theorem Exd.t {K : PySem.W.Frag} {H H' : Hp} {a : Addr} {xs : List V} (e : Exd H H') (h : SqT K H a xs) : SqT K H' a xs := by
  rcases h with h | h
  · exact .inl (e.rd h)
  · exact .inr h
mutual
theorem Rep.mono {G : Gx} {H H' : Hp} (e : Exd H H') : ∀ {v : V} {d : D}, Rep G H v d → Rep G H' v d
  | _, _, .non => .non
  | _, _, .bl b => .bl b
  | _, _, .int i => .int i
  | _, _, .str x => .str x
  | _, _, .ty n => .ty n
  | _, _, .cl C => .cl C
  | _, _, .tup h r => .tup (e.t h) (RepL.mono e r)
  | _, _, .lst h r => .lst (e _ _ h) (RepL.mono e r)
  | _, _, .scr h r => .scr (e.l h) (RepL.mono e r)
  | _, _, .ins h k r => .ins (e _ _ h) k (RepL.mono e r)
theorem RepL.mono {G : Gx} {H H' : Hp} (e : Exd H H') : ∀ {vs : List V} {ds : List D}, RepL G H vs ds → RepL G H' vs ds
  | _, _, .nil => .nil
  | _, _, .cons a b => .cons (Rep.mono e a) (RepL.mono e b)
end
theorem RepL.length {G : Gx} {H : Hp} : ∀ {vs : List V} {ds : List D}, RepL G H vs ds → vs.length = ds.length
  | _, _, .nil => rfl
  | _, _, .cons _ b => by simp [RepL.length b]
theorem RepL.get {G : Gx} {H : Hp} : ∀ {vs : List V} {ds : List D} {i : Nat} {d : D}, RepL G H vs ds → ds[i]? = some d → ∃ v, vs[i]? = some v ∧ Rep G H v d
  | _, _, _, _, .nil, e => by simp at e
  | _, _, 0, _, .cons r _, e => by simp at e; subst e; exact ⟨_, rfl, r⟩
  | _, _, i + 1, d, .cons _ t, e => by
    obtain ⟨u, h1, h2⟩ := RepL.get (i := i) (d := d) t (by simpa using e)
    exact ⟨u, by simpa using h1, h2⟩
theorem RepL.get' {G : Gx} {H : Hp} : ∀ {vs : List V} {ds : List D} {i : Nat} {v : V}, RepL G H vs ds → vs[i]? = some v → ∃ d, ds[i]? = some d ∧ Rep G H v d
  | _, _, _, _, .nil, e => by simp at e
  | _, _, 0, _, .cons r _, e => by simp at e; subst e; exact ⟨_, rfl, r⟩
  | _, _, i + 1, d, .cons _ t, e => by
    obtain ⟨u, h1, h2⟩ := RepL.get' (i := i) (v := d) t (by simpa using e)
    exact ⟨u, by simpa using h1, h2⟩
theorem RepL.append {G : Gx} {H : Hp} : ∀ {vs ws : List V} {ds es : List D}, RepL G H vs ds → RepL G H ws es → RepL G H (vs ++ ws) (ds ++ es)
  | _, _, _, _, .nil, s => s
  | _, _, _, _, .cons r t, s => .cons r (RepL.append t s)
theorem RepL.take {G : Gx} {H : Hp} : ∀ {vs : List V} {ds : List D} (n : Nat), RepL G H vs ds → RepL G H (vs.take n) (ds.take n)
  | _, _, 0, _ => .nil
  | _, _, _ + 1, .nil => .nil
  | _, _, n + 1, .cons r t => .cons r (RepL.take n t)
theorem RepL.drop {G : Gx} {H : Hp} : ∀ {vs : List V} {ds : List D} (n : Nat), RepL G H vs ds → RepL G H (vs.drop n) (ds.drop n)
  | _, _, 0, r => r
  | _, _, _ + 1, .nil => .nil
  | _, _, n + 1, .cons _ t => RepL.drop n t
theorem RepL.set {G : Gx} {H : Hp} {v : V} {d : D} (r : Rep G H v d) : ∀ {vs : List V} {ds : List D} (i : Nat), RepL G H vs ds → RepL G H (vs.set i v) (ds.set i d)
  | _, _, _, .nil => .nil
  | _, _, 0, .cons _ t => .cons r t
  | _, _, i + 1, .cons q t => .cons q (RepL.set r i t)
theorem RepL.reverse {G : Gx} {H : Hp} : ∀ {vs : List V} {ds : List D}, RepL G H vs ds → RepL G H vs.reverse ds.reverse
  | _, _, .nil => .nil
  | _, _, .cons r t => by
    rw [List.reverse_cons, List.reverse_cons]
    exact RepL.append (RepL.reverse t) (.cons r .nil)
theorem repL_ints {G : Gx} {H : Hp} : ∀ (ns : List Int), RepL G H (ns.map V.int) (ns.map D.int)
  | [] => .nil
  | n :: r => .cons (.int n) (repL_ints r)
theorem repL_ints_inv {G : Gx} {H : Hp} : ∀ {vs : List V} {ns : List Int}, RepL G H vs (ns.map D.int) → vs = ns.map V.int
  | vs, [], h => by cases h; rfl
  | vs, n :: r, h => by
    cases h with
    | cons a b => cases a; rw [repL_ints_inv b]; rfl

/-! ### worlds -/
structure Wd where
  as : List Addr
  Hs : Hp
structure Wd.le (w w' : Wd) : Prop where
  as : ∃ t, w'.as = w.as ++ t
  hs : Exd w.Hs w'.Hs
theorem Wd.le.refl (w : Wd) : w.le w := ⟨⟨[], by simp⟩, Exd.refl _⟩
theorem Wd.le.trans {w w1 w2 : Wd} (a : w.le w1) (b : w1.le w2) : w.le w2 := by
  obtain ⟨⟨t, e⟩, h⟩ := a
  obtain ⟨⟨u, f⟩, k⟩ := b
  exact ⟨⟨t ++ u, by rw [f, e, List.append_assoc]⟩, h.trans k⟩
theorem Wd.le.at {w w' : Wd} (l : w.le w') {i : Nat} {a : Addr} (h : w.as[i]? = some a) : w'.as[i]? = some a := by
  obtain ⟨⟨t, e⟩, _⟩ := l
  rw [e, List.getElem?_append_left (List.getElem?_eq_some_iff.mp h).1]
  exact h
def RepV (G : Gx) (w : Wd) (v : V) : Val → Prop
  | .d x => Rep G w.Hs v x
  | .rf i => ∃ a, w.as[i]? = some a ∧ v = .ref a
inductive RepVs (G : Gx) (w : Wd) : List V → List Val → Prop
  | nil : RepVs G w [] []
  | cons {v : V} {vs : List V} {d : Val} {ds : List Val} : RepV G w v d → RepVs G w vs ds → RepVs G w (v :: vs) (d :: ds)
theorem RepV.mono {G : Gx} {w w' : Wd} {v : V} {d : Val} (l : w.le w') (h : RepV G w v d) : RepV G w' v d := by
  cases d with
  | d x => exact Rep.mono l.hs h
  | rf i => obtain ⟨a, e, r⟩ := h; exact ⟨a, l.at e, r⟩
theorem RepVs.mono {G : Gx} {w w' : Wd} (l : w.le w') : ∀ {vs : List V} {ds : List Val}, RepVs G w vs ds → RepVs G w' vs ds
  | _, _, .nil => .nil
  | _, _, .cons a b => .cons (a.mono l) (RepVs.mono l b)
theorem RepVs.length {G : Gx} {w : Wd} : ∀ {vs : List V} {ds : List Val}, RepVs G w vs ds → vs.length = ds.length
  | _, _, .nil => rfl
  | _, _, .cons _ b => by simp [RepVs.length b]
theorem RepVs.append {G : Gx} {w : Wd} : ∀ {vs ws : List V} {ds es : List Val}, RepVs G w vs ds → RepVs G w ws es → RepVs G w (vs ++ ws) (ds ++ es)
  | _, _, _, _, .nil, s => s
  | _, _, _, _, .cons r t, s => .cons r (RepVs.append t s)

def keyD : Key → D
  | .inl i => .int i
  | .inr x => .str x
def dicK (kvs : List (Key × V)) (ds : List (D × D)) (G : Gx) (H : Hp) : Prop := kvs.map (fun p => keyD p.1) = ds.map (·.1) ∧ RepL G H (kvs.map (·.2)) (ds.map (·.2))
def dicT (kvs : List (List Key × V)) (ds : List (D × D)) (G : Gx) (H : Hp) : Prop := kvs.map (fun p => D.tup (p.1.map keyD)) = ds.map (·.1) ∧ RepL G H (kvs.map (·.2)) (ds.map (·.2))
def CellOk (G : Gx) (w : Wd) (H : Hp) (i : Nat) (a : Addr) : Cell → Prop
  | .dead => ∃ o, w.Hs a = some o
  | .lst ds => w.Hs a = none ∧ ∃ us, H a = some (.lst us) ∧ RepL G w.Hs us ds
  | .nst js => w.Hs a = none ∧ (∀ j ∈ js, j < i) ∧ ∃ bs : List Addr, H a = some (.lst (bs.map V.ref)) ∧ bs.map some = js.map fun j => w.as[j]?
  | .ins C fs => w.Hs a = none ∧ ∃ dx us, H a = some (.ins (G.cl C) dx us) ∧ us.map (·.1) = fs.map (·.1) ∧ RepL G w.Hs (us.map (·.2)) (fs.map (·.2))
  | .dic kvs => w.Hs a = none ∧ ((∃ us, H a = some (.dK us) ∧ dicK us kvs G w.Hs) ∨ ∃ us, H a = some (.dT us) ∧ dicT us kvs G w.Hs)
structure RelC (G : Gx) (w : Wd) (cs : List Cell) (H : Hp) : Prop where
  len : w.as.length = cs.length
  nd : w.as.Nodup
  ex : Exd w.Hs H
  ok : ∀ (i : Nat) (a : Addr) (c : Cell), w.as[i]? = some a → cs[i]? = some c → CellOk G w H i a c
structure XRep (G : Gx) (w : Wd) (cls : Value) (dd : Option Addr) (x : Exn) : Prop where
  cls : cls = .ref (G.cl x.C)
  dict : ∃ p us, dd = some p ∧ w.Hs p = some (.xd us) ∧ ∀ f d, x.fs.lookup f = some d → ∃ v, us.lookup f = some v ∧ Rep G w.Hs v d
theorem XRep.mono {G : Gx} {w w' : Wd} {cls : Value} {dd : Option Addr} {x : Exn} (l : w.le w') (h : XRep G w cls dd x) : XRep G w' cls dd x := by
  obtain ⟨p, us, e, h1, h2⟩ := h.dict
  exact ⟨h.cls, p, us, e, l.hs _ _ h1, fun f d q => by obtain ⟨v, a, b⟩ := h2 f d q; exact ⟨v, a, b.mono l.hs⟩⟩
/-- the exception that a suite holds, at a slot that is not stored -/
def ExOk (G : Gx) (w : Wd) (σ : L2.St) : Prop := match G.ex with
  | none => True
  | some e => σ[e.i]? = some (some (.ref e.a)) ∧ XRep G w e.cls e.dd e.x
def Gx.fr (G : Gx) (i : Nat) : Prop := match G.ex with
  | none => True
  | some e => i ≠ e.i
theorem ExOk.mono {G : Gx} {w w' : Wd} {σ : L2.St} (l : w.le w') (h : ExOk G w σ) : ExOk G w' σ := by
  unfold ExOk at h ⊢
  cases e : G.ex with
  | none => trivial
  | some e => simp only [e] at h ⊢; exact ⟨h.1, h.2.mono l⟩
theorem ExOk.of_none {G : Gx} {w : Wd} {σ : L2.St} (h : G.ex = none) : ExOk G w σ := by
  unfold ExOk; rw [h]; trivial
theorem ExOk.set {G : Gx} {w : Wd} {σ : L2.St} {i : Nat} {o : Option V} (hf : G.fr i) (h : ExOk G w σ) : ExOk G w (σ.set i o) := by
  unfold ExOk at h ⊢
  unfold Gx.fr at hf
  cases e : G.ex with
  | none => trivial
  | some e => simp only [e] at h hf ⊢; exact ⟨by rw [List.getElem?_set_ne hf]; exact h.1, h.2⟩
theorem Gx.fr_none {G : Gx} (h : G.ex = none) (i : Nat) : G.fr i := by
  unfold Gx.fr; rw [h]; trivial
structure RelV (G : Gx) (w : Wd) (r : List (Option Val)) (σ : L2.St) : Prop where
  len : r.length = σ.length
  ok : ∀ (i : Nat) (d : Val), r[i]? = some (some d) → ∃ v, σ[i]? = some (some v) ∧ RepV G w v d
  x : ExOk G w σ
structure Rel (G : Gx) (w : Wd) (st : S) (σ : L2.St) (H : Hp) : Prop where
  v : RelV G w st.r σ
  c : RelC G w st.c H
theorem RelV.mono {G : Gx} {w w' : Wd} {r : List (Option Val)} {σ : L2.St} (l : w.le w') (h : RelV G w r σ) : RelV G w' r σ :=
  ⟨h.len, fun i d e => by obtain ⟨v, e2, r⟩ := h.ok i d e; exact ⟨v, e2, r.mono l⟩, h.x.mono l⟩
/-- the shared part grows by what is new -/
theorem RelC.growX {G : Gx} {w : Wd} {cs : List Cell} {H H' Hs' : Hp} (R : RelC G w cs H) (l : Exd w.Hs Hs') (k : Exd H H') (e : Exd Hs' H') (n : ∀ a o, Hs' a = some o → w.Hs a = some o ∨ H a = none) : RelC G ⟨w.as, Hs'⟩ cs H' := by
  refine ⟨R.len, R.nd, e, fun i a c ea ec => ?_⟩
  have q := R.ok i a c ea ec
  have nn : ∀ u, w.Hs a = none → H a = some u → Hs' a = none := fun u h0 h1 => by
    cases z : Hs' a with
    | none => rfl
    | some o =>
      rcases n a o z with z | z
      · rw [h0] at z; cases z
      · rw [h1] at z; cases z
  cases c with
  | dead => obtain ⟨o, q⟩ := q; exact ⟨o, l a o q⟩
  | lst ds =>
    obtain ⟨q0, us, q1, q2⟩ := q
    exact ⟨nn _ q0 q1, us, k _ _ q1, q2.mono l⟩
  | nst js =>
    obtain ⟨q0, qj, us, q1, q2⟩ := q
    exact ⟨nn _ q0 q1, qj, us, k _ _ q1, q2⟩
  | ins C fs =>
    obtain ⟨q0, dx, us, q1, q2, q3⟩ := q
    exact ⟨nn _ q0 q1, dx, us, k _ _ q1, q2, q3.mono l⟩
  | dic kvs =>
    obtain ⟨q0, ⟨us, q1, q2, q3⟩ | ⟨us, q1, q2, q3⟩⟩ := q
    · exact ⟨nn _ q0 q1, .inl ⟨us, k _ _ q1, q2, q3.mono l⟩⟩
    · exact ⟨nn _ q0 q1, .inr ⟨us, k _ _ q1, q2, q3.mono l⟩⟩
theorem upd_mono {H H' : Hp} {p : Addr} {o : HO} (e : Exd H H') : Exd (upd H p o) (upd H' p o) := fun a u h => by
  by_cases z : a = p
  · subst z; rw [upd_same] at h ⊢; exact h
  · rw [upd_ne z] at h ⊢; exact e a u h
theorem RelC.grow {G : Gx} {w : Wd} {cs : List Cell} {H : Hp} (R : RelC G w cs H) {p : Addr} {o : HO} (hp : H p = none) (hs : w.Hs p = none) : RelC G ⟨w.as, upd w.Hs p o⟩ cs (upd H p o) :=
  R.growX (Exd.new hs) (Exd.new hp) (upd_mono R.ex) fun a u e => by
    by_cases z : a = p
    · subst z; exact .inr hp
    · rw [upd_ne z] at e; exact .inl e
theorem RelC.fresh {G : Gx} {w : Wd} {cs : List Cell} {H : Hp} (R : RelC G w cs H) {p : Addr} (hp : H p = none) : w.Hs p = none := by
  cases e : w.Hs p with
  | none => rfl
  | some u => have := R.ex p u e; rw [hp] at this; cases this
theorem Wd.le.grow {w : Wd} {p : Addr} {o : HO} (h : w.Hs p = none) : w.le ⟨w.as, upd w.Hs p o⟩ := ⟨⟨[], by simp⟩, Exd.new h⟩
/-- a data value in the heap as it stands -/
theorem RelC.rep {G : Gx} {w : Wd} {cs : List Cell} {H : Hp} (R : RelC G w cs H) {v : V} {d : D} (h : Rep G w.Hs v d) : Rep G H v d := Rep.mono R.ex h
end FL
namespace FL
open PySem PySem.Spec PyProof.Rows L2

/-! ### what follows -/
def bindR {α β : Type} (r : Res α) (k : α → S → Res β) : Res β := match r with
  | .ok a s => k a s
  | .exc x s => .exc x s
  | .bad => .bad
def PostE (G : Gx) (W : WX) (σ : L2.St) {α : Type} (w : Wd) (r : Res α) (k : Wd → Hp → S → α → Prop) : Prop := match r with
  | .ok a s => ∀ w' H', w.le w' → Rel G w' s σ H' → k w' H' s a
  | .exc x s => ∀ w' H' cls dd, w.le w' → Rel G w' s σ H' → XRep G w' cls dd x → W cls dd σ H'
  | .bad => False
section
variable {G : Gx} {W : WX} {σ : L2.St} {α β : Type} {w w' : Wd} {r : Res α} {k k' : Wd → Hp → S → α → Prop}
theorem PostE.le (h : PostE G W σ w r k) (l : w.le w') : PostE G W σ w' r k := by
  cases r with
  | ok a s => exact fun w1 H1 l1 R => h w1 H1 (l.trans l1) R
  | exc x s => exact fun w1 H1 cls dd l1 R q => h w1 H1 cls dd (l.trans l1) R q
  | bad => exact h
theorem PostE.bind {K : Wd → Hp → S → β → Prop} {f : α → S → Res β} (h : PostE G W σ w (bindR r f) K)
    (hk : ∀ w' H' s a, w.le w' → Rel G w' s σ H' → PostE G W σ w' (f a s) K → k w' H' s a) : PostE G W σ w r k := by
  cases r with
  | ok a s => exact fun w1 H1 l1 R => hk w1 H1 s a l1 R (PostE.le h l1)
  | exc x s => exact h
  | bad => exact h
theorem PostE.imp (h : PostE G W σ w r k) (hk : ∀ w' H' s a, w.le w' → Rel G w' s σ H' → k w' H' s a → k' w' H' s a) : PostE G W σ w r k' := by
  cases r with
  | ok a s => exact fun w1 H1 l1 R => hk w1 H1 s a l1 R (h w1 H1 l1 R)
  | exc x s => exact h
  | bad => exact h
end
/-- the readings of functions -/
def tI (G : Gx) (W : WX) (f : S → Res Val) : TE := fun σ H Q => ∃ w st, Rel G w st σ H ∧ PostE G W σ w (f st) fun w' H' _ d => ∀ v, RepV G w' v d → Q v H'
def tIT (G : Gx) (W : WX) (f : S → Res Bool) : TT := fun σ H Q => ∃ w st, Rel G w st σ H ∧ PostE G W σ w (f st) fun _ H' _ b => Q b H'
def tIA (G : Gx) (W : WX) (f : S → Res (List Val)) : TA := fun σ H Q => ∃ w st, Rel G w st σ H ∧ PostE G W σ w (f st) fun w' H' _ ds => ∀ vs, RepVs G w' vs ds → Q vs H'
/-- an expression that makes a new list -/
def tIL (G : Gx) (W : WX) (f : S → Res (List D)) : TE := fun σ H Q => ∃ w st, Rel G w st σ H ∧ PostE G W σ w (f st) fun w' H' _ ds => ∀ p us, H' p = none → RepL G w'.Hs us ds → Q (.ref p) (upd H' p (.lst us))
abbrev EF (X : Cx) (G : Gx) (W : WX) (e : Expr) (f : S → Res Val) : Prop := PE X e (tI G W f)
abbrev TF (X : Cx) (G : Gx) (W : WX) (e : Expr) (f : S → Res Bool) : Prop := PT X e (tIT G W f)
abbrev AF (X : Cx) (G : Gx) (W : WX) (es : List Expr) (f : S → Res (List Val)) : Prop := PA X es (tIA G W f)
abbrev LF (X : Cx) (G : Gx) (W : WX) (e : Expr) (f : S → Res (List D)) : Prop := PE X e (tIL G W f)

theorem _root_.L2.PE.imp {X : Cx} {e : Expr} {t t' : TE} (h : PE X e t) (k : ∀ σ H Q, t' σ H Q → t σ H Q) : PE X e t' := ⟨fun pins s σ H Q I q => h.run pins s σ H Q I (k σ H Q q)⟩
theorem _root_.L2.PT.imp {X : Cx} {e : Expr} {t t' : TT} (h : PT X e t) (k : ∀ σ H Q, t' σ H Q → t σ H Q) : PT X e t' := ⟨fun pins s σ H Q I q => h.run pins s σ H Q I (k σ H Q q)⟩
theorem _root_.L2.PA.imp {X : Cx} {e : List Expr} {t t' : TA} (h : PA X e t) (k : ∀ σ H Q, t' σ H Q → t σ H Q) : PA X e t' := ⟨fun pos pins s σ H Q I q => h.run pos pins s σ H Q I (k σ H Q q)⟩
theorem _root_.L2.PS.imp {X : Cx} {e : Stmt} {t t' : TS} (h : PS X e t) (k : ∀ D σ H, t' D σ H → t D σ H) : PS X e t' := ⟨fun pins s σ H D I q => h.run pins s σ H D I (k D σ H q)⟩
theorem _root_.L2.PSs.imp {X : Cx} {e : List Stmt} {t t' : TS} (h : PSs X e t) (k : ∀ D σ H, t' D σ H → t D σ H) : PSs X e t' := ⟨fun pins s σ H D I q => h.run pins s σ H D I (k D σ H q)⟩

/-- the context of a def's body -/
structure Fs (X : Cx) (G : Gx) (W : WX) : Prop where
  K : X.K = G.K
  nd : X.N.Nodup
  hu : X.A.units + 64 < cLine
  tk : Takes X W
  po : PassesOwn (model X.prog X.w) X.A X.env X.xe
/-- .. not within an except suite -/
structure Fx (X : Cx) (G : Gx) (W : WX) (k : Nat) : Prop extends Fs X G W where
  calm : X.calm = true
  hr : Room k X.A
theorem Fx.of {X : Cx} {G : Gx} {W : WX} {k : Nat} (hK : X.K = G.K) (nd : X.N.Nodup) (hr : Room k X.A) (tk : Takes X W) (po : PassesOwn (model X.prog X.w) X.A X.env X.xe) (calm : X.calm = true) : Fx X G W k := ⟨⟨hK, nd, hr.units, tk, po⟩, calm, hr⟩

/-! ### names and constants -/
def nameF (i : Nat) : S → Res Val := fun st => match st.r[i]? with
  | some (some v) => .ok v st
  | _ => .bad
def cF (d : D) : S → Res Val := fun st => .ok (.d d) st
section
variable {X : Cx} {G : Gx} {W : WX}
theorem ef_name (i : Nat) {x : Str} {pos : Pos} (h : PE X (.Name x pos) (tVar i)) : EF X G W (.Name x pos) (nameF i) := h.imp fun σ H Q ⟨w, st, R, q⟩ => by
  unfold nameF at q
  cases e : st.r[i]? with
  | none => rw [e] at q; exact q.elim
  | some o =>
    cases o with
    | none => rw [e] at q; exact q.elim
    | some d =>
      rw [e] at q
      obtain ⟨v, ev, rv⟩ := R.v.ok i d e
      exact ⟨v, ev, q w H (.refl w) R v rv⟩
theorem ef_c {e : Expr} {v : V} {d : D} (h : PE X e (tC v)) (r : ∀ H, Rep G H v d) : EF X G W e (cF d) := h.imp fun _ H _ ⟨w, _, R, q⟩ => q w H (.refl w) R v (r _)
theorem ef_int {i j pos} : EF X G W (.Constant (.int i) j pos) (cF (.int i)) := ef_c pe_int fun _ => .int i
theorem ef_bl {b j pos} : EF X G W (.Constant (.bool b) j pos) (cF (.bl b)) := ef_c pe_bl fun _ => .bl b
theorem ef_non {j pos} : EF X G W (.Constant .none j pos) (cF .non) := ef_c pe_non fun _ => .non
theorem ef_str {x j pos} : EF X G W (.Constant (.str x) j pos) (cF (.str x)) := ef_c pe_str fun _ => .str x
end

/-! ### operators on values -/
abbrev O2 := Val → Val → List Cell → Option Val
/-- what a rule on values asks where the function gives d: the shared part may have grown -/
def Give (G : Gx) (w : Wd) (cs : List Cell) (d : Option Val) (Q : VK) : Prop := match d with
  | some d => ∀ Hs' H' v, Exd w.Hs Hs' → RelC G ⟨w.as, Hs'⟩ cs H' → RepV G ⟨w.as, Hs'⟩ v d → Q v H'
  | none => False
def rO (G : Gx) (o : O2) : R2 := fun x y H Q => ∃ w cs dx dy, RelC G w cs H ∧ RepV G w x dx ∧ RepV G w y dy ∧ Give G w cs (o dx dy cs) Q
abbrev OpF (X : Cx) (G : Gx) (f : Value → Value → Sem Value) (o : O2) : Prop := OpR X f (rO G o)
def optR {α : Type} (o : Option α) (s : S) : Res α := match o with
  | some a => .ok a s
  | none => .bad
def binF (o : O2) (fa fb : S → Res Val) : S → Res Val := fun st => bindR (fa st) fun x s1 => bindR (fb s1) fun y s2 => optR (o x y s2.c) s2
section
variable {X : Cx} {G : Gx} {W : WX} {a b : Expr} {fa fb : S → Res Val} {pos : Pos}
theorem give_of {w : Wd} {st : S} {σ : L2.St} {o : Option Val} {Q : VK} {H : Hp} (R : Rel G w st σ H) (q : PostE G W σ w (optR o st) fun w' H' _ d => ∀ v, RepV G w' v d → Q v H') : Give G w st.c o Q := by
  cases o with
  | none => exact q.elim
  | some d => exact fun Hs' H' v l Rc rv => q ⟨w.as, Hs'⟩ H' ⟨⟨[], by simp⟩, l⟩ ⟨R.v.mono ⟨⟨[], by simp⟩, l⟩, Rc⟩ v rv
theorem rO_of {o : O2} {σ : L2.St} {H : Hp} {Q : VK} (h : tI G W (binF o fa fb) σ H Q) : tOp (rO G o) (tI G W fa) (tI G W fb) σ H Q := by
  obtain ⟨w, st, R, q⟩ := h
  refine ⟨w, st, R, q.bind fun w1 H1 s1 x l1 R1 q1 v rv => ?_⟩
  refine ⟨w1, s1, R1, q1.bind fun w2 H2 s2 y l2 R2 q2 u ru => ?_⟩
  exact ⟨w2, s2.c, x, y, R2.c, rv.mono l2, ru, give_of R2 q2⟩
theorem ef_bin {op : Operator} {o : O2} (ho : OpF X G (binaryOp op) o) (ha : EF X G W a fa) (hb : EF X G W b fb) : EF X G W (.BinOp a op b pos) (binF o fa fb) := (pe_op ho ha hb).imp fun _ _ _ h => rO_of h
theorem ef_cmp {op : CmpOp} {o : O2} (ho : OpF X G (compareOp op) o) (ha : EF X G W a fa) (hb : EF X G W b fb) (hm : behindInMarks op b = false := by first | exact nomark _ | rfl) : EF X G W (.Compare a [op] [b] pos) (binF o fa fb) := (pe_cmpR ho ha hb hm).imp fun _ _ _ h => rO_of h
/-- tests -/
def boolV : Val → Option Bool
  | .d (.bl b) => some b
  | _ => none
def tstF (f : S → Res Val) : S → Res Bool := fun st => bindR (f st) fun v s => optR (boolV v) s
theorem tst_of {f : S → Res Val} {t : TE} (ht : ∀ σ H Q, tI G W f σ H Q → t σ H Q) {σ : L2.St} {H : Hp} {Q : Bool → Hp → Prop} (h : tIT G W (tstF f) σ H Q) : tTest t σ H Q := by
  obtain ⟨w, st, R, q⟩ := h
  refine ht σ H _ ⟨w, st, R, q.bind fun w1 H1 s1 x l1 R1 q1 v rv => ?_⟩
  cases x with
  | rf i => exact q1.elim
  | d x =>
    cases x with
    | bl c =>
      cases rv
      exact ⟨c, rfl, q1 w1 H1 (.refl _) R1⟩
    | _ => exact q1.elim
theorem tf_cmp {op : CmpOp} {o : O2} (ho : OpF X G (compareOp op) o) (ha : EF X G W a fa) (hb : EF X G W b fb) (hm : behindInMarks op b = false := by first | exact nomark _ | rfl) : TF X G W (.Compare a [op] [b] pos) (tstF (binF o fa fb)) :=
  (pt_cmpR ho ha hb hm).imp fun _ _ _ h => tst_of (fun _ _ _ h => rO_of h) h
theorem tf_val {e : Expr} {f : S → Res Val} (h : EF X G W e f) (he : ∀ whole, isTrue e X.env whole = (do let v ← whole; standAt e.pos; holding [v] (truthy v)) := by intro _; rfl) : TF X G W e (tstF f) :=
  (pt_val h he).imp fun _ _ _ h => tst_of (fun _ _ _ h => h) h
def notF (f : S → Res Bool) : S → Res Bool := fun st => bindR (f st) fun b s => .ok (!b) s
def andF (f g : S → Res Bool) : S → Res Bool := fun st => bindR (f st) fun b s => if b = true then g s else .ok false s
def orF (f g : S → Res Bool) : S → Res Bool := fun st => bindR (f st) fun b s => if b = true then .ok true s else g s
theorem tf_not {f : S → Res Bool} (h : TF X G W a f) : TF X G W (.UnaryOp .Not a pos) (notF f) := (pt_not h).imp fun σ H Q ⟨w, st, R, q⟩ => ⟨w, st, R, q.bind fun _ _ _ _ _ R1 q1 => q1 _ _ (.refl _) R1⟩
abbrev WF (X : Cx) (G : Gx) (W : WX) (e : Expr) (f : S → Res Bool) : Prop := PW X e (tIT G W f)
theorem _root_.L2.PW.imp {X : Cx} {e : Expr} {t t' : TT} (h : PW X e t) (k : ∀ σ H Q, t' σ H Q → t σ H Q) : PW X e t' := ⟨fun wh pins s σ H Q I q => h.run wh pins s σ H Q I (k σ H Q q)⟩
theorem wf_and1 {f : S → Res Bool} (h : TF X G W a f) : WF X G W (.BoolOp .And [a] pos) f := pw_and1 h
theorem wf_or1 {f : S → Res Bool} (h : TF X G W a f) : WF X G W (.BoolOp .Or [a] pos) f := pw_or1 h
theorem wf_and {f g : S → Res Bool} {rest : List Expr} (h : TF X G W a f) (k : WF X G W (.BoolOp .And (b :: rest) pos) g) : WF X G W (.BoolOp .And (a :: b :: rest) pos) (andF f g) := (pw_and h k).imp fun σ H Q ⟨w, st, R, q⟩ => by
  refine ⟨w, st, R, q.bind fun w1 H1 s1 c _ R1 q1 => ?_⟩
  cases c with
  | true => exact ⟨w1, s1, R1, q1⟩
  | false => exact q1 w1 H1 (.refl _) R1
theorem wf_or {f g : S → Res Bool} {rest : List Expr} (h : TF X G W a f) (k : WF X G W (.BoolOp .Or (b :: rest) pos) g) : WF X G W (.BoolOp .Or (a :: b :: rest) pos) (orF f g) := (pw_or h k).imp fun σ H Q ⟨w, st, R, q⟩ => by
  refine ⟨w, st, R, q.bind fun w1 H1 s1 c _ R1 q1 => ?_⟩
  cases c with
  | true => exact q1 w1 H1 (.refl _) R1
  | false => exact ⟨w1, s1, R1, q1⟩
theorem tf_w {f : S → Res Bool} (h : WF X G W a f) : TF X G W a f := h.pt
/-- and, or, not as values of bools -/
def andV (f g : S → Res Val) : S → Res Val := fun st => bindR (f st) fun v s => bindR (optR (boolV v) s) fun b s => if b = true then g s else .ok (.d (.bl false)) s
def orV (f g : S → Res Val) : S → Res Val := fun st => bindR (f st) fun v s => bindR (optR (boolV v) s) fun b s => if b = true then .ok (.d (.bl true)) s else g s
def notV (f : S → Res Val) : S → Res Val := fun st => bindR (f st) fun v s => bindR (optR (boolV v) s) fun b s => .ok (.d (.bl (!b))) s
theorem bool_of {x : Val} {v : V} {w : Wd} {s : S} {σ : L2.St} {α : Type} {f : Bool → S → Res α} {K : Wd → Hp → S → α → Prop} (rv : RepV G w v x) (q : PostE G W σ w (bindR (optR (boolV x) s) f) K) : ∃ c, x = .d (.bl c) ∧ v = .bl c ∧ PostE G W σ w (f c s) K := by
  cases x with
  | rf i => exact q.elim
  | d x =>
    cases x with
    | bl c => cases rv; exact ⟨c, rfl, rfl, q⟩
    | _ => exact q.elim
theorem ef_one {op} {f : S → Res Val} (h : EF X G W a f) : EF X G W (.BoolOp op [a] pos) f := pe_one h
theorem ef_and {f g : S → Res Val} {rest : List Expr} (h : EF X G W a f) (k : EF X G W (.BoolOp .And (b :: rest) pos) g) : EF X G W (.BoolOp .And (a :: b :: rest) pos) (andV f g) := (pe_and h k).imp fun σ H Q ⟨w, st, R, q⟩ => by
  refine ⟨w, st, R, q.bind fun w1 H1 s1 c _ R1 q1 v rv => ?_⟩
  obtain ⟨c, rfl, rfl, q2⟩ := bool_of rv q1
  refine ⟨c, rfl, ?_⟩
  cases c with
  | true => exact ⟨w1, s1, R1, q2⟩
  | false => exact q2 w1 H1 (.refl _) R1 _ (.bl _)
theorem ef_or {f g : S → Res Val} {rest : List Expr} (h : EF X G W a f) (k : EF X G W (.BoolOp .Or (b :: rest) pos) g) : EF X G W (.BoolOp .Or (a :: b :: rest) pos) (orV f g) := (pe_or h k).imp fun σ H Q ⟨w, st, R, q⟩ => by
  refine ⟨w, st, R, q.bind fun w1 H1 s1 c _ R1 q1 v rv => ?_⟩
  obtain ⟨c, rfl, rfl, q2⟩ := bool_of rv q1
  refine ⟨c, rfl, ?_⟩
  cases c with
  | true => exact q2 w1 H1 (.refl _) R1 _ (.bl _)
  | false => exact ⟨w1, s1, R1, q2⟩
theorem ef_not {f : S → Res Val} (h : EF X G W a f) : EF X G W (.UnaryOp .Not a pos) (notV f) := (pe_not h).imp fun σ H Q ⟨w, st, R, q⟩ => by
  refine ⟨w, st, R, q.bind fun w1 H1 s1 c _ R1 q1 v rv => ?_⟩
  obtain ⟨c, rfl, rfl, q2⟩ := bool_of rv q1
  exact ⟨c, rfl, q2 w1 H1 (.refl _) R1 _ (.bl _)⟩
def ifF (t : S → Res Bool) (f g : S → Res Val) : S → Res Val := fun st => bindR (t st) fun b s => if b = true then f s else g s
theorem ef_if {c : Expr} {t : S → Res Bool} {f g : S → Res Val} (hc : TF X G W c t) (h : EF X G W a f) (k : EF X G W b g) : EF X G W (.IfExp c a b pos) (ifF t f g) := (pe_ifExp hc h k).imp fun σ H Q ⟨w, st, R, q⟩ => by
  refine ⟨w, st, R, q.bind fun w1 H1 s1 c _ R1 q1 => ?_⟩
  cases c with
  | true => exact ⟨w1, s1, R1, q1⟩
  | false => exact ⟨w1, s1, R1, q1⟩
/-- a value-level function of one place -/
abbrev O1 := Val → List Cell → Option Val
def rU1 (G : Gx) (o : O1) : V → Hp → VK → Prop := fun x H Q => ∃ w cs dx, RelC G w cs H ∧ RepV G w x dx ∧ Give G w cs (o dx cs) Q
def unF (o : O1) (f : S → Res Val) : S → Res Val := fun st => bindR (f st) fun x s => optR (o x s.c) s
theorem ef_un {op : UnaryOp} {o : O1} {f : S → Res Val} (ho : UnR X (unaryOp op) (rU1 G o)) (h : EF X G W a f) : EF X G W (.UnaryOp op a pos) (unF o f) := (pe_un ho h).imp fun σ H Q ⟨w, st, R, q⟩ =>
  ⟨w, st, R, q.bind fun w1 H1 s1 x _ R1 q1 v rv => ⟨w1, s1.c, x, R1.c, rv, give_of R1 q1⟩⟩
/-! ### arguments, displays -/
def aNil : S → Res (List Val) := fun st => .ok [] st
def aCons (f : S → Res Val) (g : S → Res (List Val)) : S → Res (List Val) := fun st => bindR (f st) fun x s => bindR (g s) fun xs s => .ok (x :: xs) s
theorem af_nil : AF X G W [] aNil := pa_nil.imp fun _ _ _ ⟨w, _, R, q⟩ => q w _ (.refl _) R [] .nil
theorem af_cons {e : Expr} {es : List Expr} {f : S → Res Val} {g : S → Res (List Val)} (h : EF X G W e f) (k : AF X G W es g) (hs : starEach (e :: es) X.env = (false, eval e X.env) :: starEach es X.env := by rfl) : AF X G W (e :: es) (aCons f g) :=
  (pa_cons h k hs).imp fun σ H Q ⟨w, st, R, q⟩ => ⟨w, st, R, q.bind fun w1 H1 s1 x _ R1 q1 v rv => ⟨w1, s1, R1, q1.bind fun w2 H2 s2 xs l2 R2 q2 vs rvs => q2 w2 H2 (.refl _) R2 _ (.cons (rv.mono l2) rvs)⟩⟩
def pureD : List Val → Option (List D)
  | [] => some []
  | .d x :: r => (pureD r).map (x :: ·)
  | .rf _ :: _ => none
theorem pureD_rep {w : Wd} : ∀ {vs : List V} {xs : List Val} {ds : List D}, RepVs G w vs xs → pureD xs = some ds → RepL G w.Hs vs ds
  | _, _, _, .nil, e => by cases e; exact .nil
  | _, _, _, .cons (d := .d x) a b, e => by
    unfold pureD at e
    obtain ⟨r, e1, e2⟩ := Option.map_eq_some_iff.mp e
    subst e2
    exact .cons a (pureD_rep b e1)
  | _, _, _, .cons (d := .rf i) a b, e => by cases e
def sz (n : Nat) : Bool := decide (n ≤ 1000000)
theorem sz_le {n : Nat} (h : sz n = true) : n ≤ sizeLine := Nat.le_trans (of_decide_eq_true h) (by rw [sizeLine_eq]; decide)
def tupF (g : S → Res (List Val)) : S → Res Val := fun st => bindR (g st) fun xs s => bindR (optR (pureD xs) s) fun ds s => if sz ds.length = true then .ok (.d (.tup ds)) s else .bad
def lstF (g : S → Res (List Val)) : S → Res (List D) := fun st => bindR (g st) fun xs s => bindR (optR (pureD xs) s) fun ds s => if sz ds.length = true then .ok ds s else .bad
theorem pure_of {σ : L2.St} {α : Type} {xs : List Val} {vs : List V} {w : Wd} {s : S} {f : List D → S → Res α} {K : Wd → Hp → S → α → Prop} (rv : RepVs G w vs xs) (q : PostE G W σ w (bindR (optR (pureD xs) s) fun ds s => if sz ds.length = true then f ds s else .bad) K) :
    ∃ ds, RepL G w.Hs vs ds ∧ vs.length ≤ sizeLine ∧ PostE G W σ w (f ds s) K := by
  cases e : pureD xs with
  | none => rw [e] at q; exact q.elim
  | some ds =>
    rw [e] at q
    have r := pureD_rep rv e
    by_cases z : sz ds.length = true
    · have q' : PostE G W σ w (if sz ds.length = true then f ds s else .bad) K := q
      rw [if_pos z] at q'
      exact ⟨ds, r, by rw [r.length]; exact sz_le z, q'⟩
    · have q' : PostE G W σ w (if sz ds.length = true then f ds s else .bad) K := q
      rw [if_neg z] at q'
      exact q'.elim
theorem ef_tup {es : List Expr} {x1} {g : S → Res (List Val)} (h : AF X G W es g) (hK : X.K = G.K) : EF X G W (.Tuple es x1 pos) (tupF g) := (pe_tup h).imp fun σ H Q ⟨w, st, R, q⟩ => by
  refine ⟨w, st, R, q.bind fun w1 H1 s1 xs _ R1 q1 vs rvs => ?_⟩
  obtain ⟨ds, r, z, q2⟩ := pure_of (f := fun ds s => Res.ok (Val.d (D.tup ds)) s) rvs q1
  refine ⟨z, fun p hp => ?_⟩
  have hs := R1.c.fresh hp
  have l : w1.le ⟨w1.as, upd w1.Hs p (.tup vs)⟩ := Wd.le.grow hs
  exact q2 ⟨w1.as, upd w1.Hs p (.tup vs)⟩ _ l ⟨R1.v.mono l, R1.c.grow hp hs⟩ (.ref p) (Rep.tup (.inl (.inl upd_same)) (r.mono (Exd.new hs)))
theorem lf_lst {es : List Expr} {g : S → Res (List Val)} (h : AF X G W es g) : LF X G W (.List es pos) (lstF g) := (pe_lst h).imp fun σ H Q ⟨w, st, R, q⟩ => by
  refine ⟨w, st, R, q.bind fun w1 H1 s1 xs _ R1 q1 vs rvs => ?_⟩
  obtain ⟨ds, r, z, q2⟩ := pure_of (f := fun ds s => Res.ok ds s) rvs q1
  exact ⟨z, fun p hp => q2 w1 H1 (.refl _) R1 p vs hp r⟩
/-- a new list, never changed -/
def frzF (g : S → Res (List D)) : S → Res Val := fun st => bindR (g st) fun ds s => .ok (.d (.lst ds)) s
theorem ef_l {e : Expr} {g : S → Res (List D)} (h : LF X G W e g) : EF X G W e (frzF g) := h.imp fun σ H Q ⟨w, st, R, q⟩ => by
  refine ⟨w, st, R, q.bind fun w1 H1 s1 ds _ R1 q1 p us hp r => ?_⟩
  have hs := R1.c.fresh hp
  have l : w1.le ⟨w1.as, upd w1.Hs p (.lst us)⟩ := Wd.le.grow hs
  exact q1 ⟨w1.as, upd w1.Hs p (.lst us)⟩ _ l ⟨R1.v.mono l, R1.c.grow hp hs⟩ (.ref p) (Rep.lst upd_same (r.mono (Exd.new hs)))
end
end FL

set_option Elab.async false
set_option linter.all false
set_option maxRecDepth 100000
set_option maxHeartbeats 4000000
namespace FL
open PySem PySem.Spec PyProof.Rows L2

/-! ### statements -/
def bindS {α : Type} (r : Res α) (k : α → S → SRes) : SRes := match r with
  | .ok a s => k a s
  | .exc x s => .exc x s
  | .bad => .bad
def PostS (G : Gx) (W : WX) (D : Ends) (w : Wd) (r : SRes) : Prop := match r with
  | .nx s => ∀ w' σ' H', w.le w' → Rel G w' s σ' H' → D.nx σ' H'
  | .ret v s => ∀ w' σ' H' u, w.le w' → Rel G w' s σ' H' → RepV G w' u v → D.rt u H'
  | .brk s => ∀ w' σ' H', w.le w' → Rel G w' s σ' H' → D.bk σ' H'
  | .ct s => ∀ w' σ' H', w.le w' → Rel G w' s σ' H' → D.ct σ' H'
  | .exc x s => ∀ w' σ' H' cls dd, w.le w' → Rel G w' s σ' H' → XRep G w' cls dd x → W cls dd σ' H'
  | .bad => False
def tIS (G : Gx) (W : WX) (g : S → SRes) : TS := fun D σ H => ∃ w st, Rel G w st σ H ∧ PostS G W D w (g st)
abbrev SF (X : Cx) (G : Gx) (W : WX) (st : Stmt) (g : S → SRes) : Prop := PS X st (tIS G W g)
abbrev SFs (X : Cx) (G : Gx) (W : WX) (st : List Stmt) (g : S → SRes) : Prop := PSs X st (tIS G W g)
section
variable {G : Gx} {W : WX} {D : Ends} {w w' : Wd} {r : SRes}
theorem PostS.le (h : PostS G W D w r) (l : w.le w') : PostS G W D w' r := by
  cases r with
  | nx s => exact fun w1 σ1 H1 l1 R => h w1 σ1 H1 (l.trans l1) R
  | ret v s => exact fun w1 σ1 H1 u l1 R q => h w1 σ1 H1 u (l.trans l1) R q
  | brk s => exact fun w1 σ1 H1 l1 R => h w1 σ1 H1 (l.trans l1) R
  | ct s => exact fun w1 σ1 H1 l1 R => h w1 σ1 H1 (l.trans l1) R
  | exc x s => exact fun w1 σ1 H1 cls dd l1 R q => h w1 σ1 H1 cls dd (l.trans l1) R q
  | bad => exact h
theorem PostS.bindE {α : Type} {e : Res α} {f : α → S → SRes} {σ : L2.St} {k : Wd → Hp → S → α → Prop} (h : PostS G W D w (bindS e f))
    (hk : ∀ w' H' s a, w.le w' → Rel G w' s σ H' → PostS G W D w' (f a s) → k w' H' s a) : PostE G W σ w e k := by
  cases e with
  | ok a s => exact fun w1 H1 l1 R => hk w1 H1 s a l1 R (PostS.le h l1)
  | exc x s => exact fun w1 H1 cls dd l1 R q => h w1 σ H1 cls dd l1 R q
  | bad => exact h
/-- other ends, alike but for what follows -/
theorem PostS.ends {D' : Ends} (h : PostS G W D w r) (hr : D'.rt = D.rt) (hb : D'.bk = D.bk) (hc : D'.ct = D.ct) (hn : ∀ s, r = .nx s → PostS G W D' w (.nx s)) : PostS G W D' w r := by
  cases r with
  | nx s => exact hn s rfl
  | ret v s => exact fun w1 σ1 H1 u l1 R q => by rw [hr]; exact h w1 σ1 H1 u l1 R q
  | brk s => exact fun w1 σ1 H1 l1 R => by rw [hb]; exact h w1 σ1 H1 l1 R
  | ct s => exact fun w1 σ1 H1 l1 R => by rw [hc]; exact h w1 σ1 H1 l1 R
  | exc x s => exact h
  | bad => exact h
end
def seqS (g k : S → SRes) : S → SRes := fun st => match g st with
  | .nx s => k s
  | r => r
def nxS : S → SRes := fun st => .nx st
section
variable {X : Cx} {G : Gx} {W : WX} {st : Stmt} {rest : List Stmt} {g k : S → SRes} {pos : Pos}
theorem sfs_nil : SFs X G W [] nxS := pss_nil.imp fun D σ H ⟨w, st, R, q⟩ => q w σ H (.refl w) R
theorem sfs_one (h : SF X G W st g) : SFs X G W [st] g := pss_one h
theorem sfs_cons (h : SF X G W st g) (h2 : SFs X G W rest k) : SFs X G W (st :: rest) (seqS g k) := (pss_cons h h2).imp fun D σ H ⟨w, s, R, q⟩ => by
  refine ⟨w, s, R, ?_⟩
  have q' : PostS G W D w (match g s with | .nx s => k s | r => r) := q
  cases e : g s with
  | nx s1 => rw [e] at q'; exact fun w1 σ1 H1 l1 R1 => ⟨w1, s1, R1, PostS.le q' l1⟩
  | ret v s1 => rw [e] at q'; exact q'
  | brk s1 => rw [e] at q'; exact q'
  | ct s1 => rw [e] at q'; exact q'
  | exc x s1 => rw [e] at q'; exact q'
  | bad => rw [e] at q'; exact q'
theorem sf_pass : SF X G W (.Pass pos) nxS := ps_pass.imp fun D σ H ⟨w, st, R, q⟩ => q w σ H (.refl w) R
def brkS : S → SRes := fun st => .brk st
def ctS : S → SRes := fun st => .ct st
theorem sf_break : SF X G W (.Break pos) brkS := ps_break.imp fun D σ H ⟨w, st, R, q⟩ => q w σ H (.refl w) R
theorem sf_continue : SF X G W (.Continue pos) ctS := ps_continue.imp fun D σ H ⟨w, st, R, q⟩ => q w σ H (.refl w) R
variable {e : Expr} {f : S → Res Val}
def retS (f : S → Res Val) : S → SRes := fun st => bindS (f st) fun v s => .ret v s
theorem sf_ret (h : EF X G W e f) : SF X G W (.Return (some e) pos) (retS f) := (ps_ret h).imp fun D σ H ⟨w, st, R, q⟩ =>
  ⟨w, st, R, q.bindE fun w1 H1 s1 v _ R1 q1 u ru => q1 w1 σ H1 u (.refl _) R1 ru⟩
def retNS : S → SRes := fun st => .ret (.d .non) st
theorem sf_retN : SF X G W (.Return none pos) retNS := ps_retN.imp fun D σ H ⟨w, st, R, q⟩ => q w σ H .non (.refl w) R .non
def dropS (f : S → Res Val) : S → SRes := fun st => bindS (f st) fun _ s => .nx s
theorem sf_expr (h : EF X G W e f) (hs : swapsWith e none pos.line X.env = pure false := by rfl) : SF X G W (.Expr e pos) (dropS f) := (ps_expr h hs).imp fun D σ H ⟨w, st, R, q⟩ =>
  ⟨w, st, R, q.bindE fun w1 H1 s1 v _ R1 q1 u ru => q1 w1 σ H1 (.refl _) R1⟩
def ifS (t : S → Res Bool) (g k : S → SRes) : S → SRes := fun st => bindS (t st) fun b s => if b = true then g s else k s
theorem sf_if {c : Expr} {a b : List Stmt} {t : S → Res Bool} (hc : TF X G W c t) (h : SFs X G W a g) (h2 : SFs X G W b k) : SF X G W (.If c a b pos) (ifS t g k) := (ps_if hc h h2).imp fun D σ H ⟨w, st, R, q⟩ => by
  refine ⟨w, st, R, q.bindE fun w1 H1 s1 c _ R1 q1 => ?_⟩
  cases c with
  | true => exact ⟨w1, s1, R1, q1⟩
  | false => exact ⟨w1, s1, R1, q1⟩
/-- storing at a name -/
theorem RelV.set {w : Wd} {r : List (Option Val)} {σ : L2.St} (h : RelV G w r σ) {i : Nat} {v : V} {d : Val} (rv : RepV G w v d) (hf : G.fr i) : RelV G w (r.set i (some d)) (σ.set i (some v)) := by
  refine ⟨by simp [h.len], fun j e he => ?_, h.x.set hf⟩
  by_cases hj : j = i
  · subst hj
    have hl : j < r.length := by
      have := (List.getElem?_eq_some_iff.mp he).1
      simpa using this
    rw [List.getElem?_set_self hl] at he
    cases he
    exact ⟨v, by rw [List.getElem?_set_self (by rw [← h.len]; exact hl)], rv⟩
  · rw [List.getElem?_set_ne (Ne.symm hj)] at he ⊢
    exact h.ok j e he
theorem RelV.unset {w : Wd} {r : List (Option Val)} {σ : L2.St} (h : RelV G w r σ) {i : Nat} {o : Option V} (hf : G.fr i) : RelV G w (r.set i none) (σ.set i o) := by
  refine ⟨by simp [h.len], fun j e he => ?_, h.x.set hf⟩
  by_cases hj : j = i
  · subst hj
    have hl : j < r.length := by
      have := (List.getElem?_eq_some_iff.mp he).1
      simpa using this
    rw [List.getElem?_set_self hl] at he
    cases he
  · rw [List.getElem?_set_ne (Ne.symm hj)] at he ⊢
    exact h.ok j e he
def setS (i : Nat) (f : S → Res Val) : S → SRes := fun st => bindS (f st) fun v s => .nx ⟨s.r.set i (some v), s.c⟩
theorem sf_set (i : Nat) {x : Str} {pos' : Pos} (hN : X.N.Nodup) (hi : X.N[i]? = some x) (hx : Loc X.env.scope x) (h : EF X G W e f) (hs : swapsWith e (some (.Name x pos')) pos.line X.env = pure false := by rfl)
    (hf : X.fn x = true ∨ X.env.scope.names.lookup x = some .local := by first | exact .inl rfl | exact .inr rfl | assumption) (hr : G.fr i := by exact True.intro) : SF X G W (.Assign [.Name x pos'] e pos) (setS i f) := (ps_set hN hi hx h hs hf).imp fun D σ H ⟨w, st, R, q⟩ =>
  ⟨w, st, R, q.bindE fun w1 H1 s1 v _ R1 q1 u ru => q1 w1 _ H1 (.refl _) ⟨R1.v.set ru hr, R1.c⟩⟩
/-- a new cell -/
theorem RelC.cellL {w : Wd} {cs : List Cell} {H : Hp} (R : RelC G w cs H) {p : Addr} {us : List V} {ds : List D} (hp : H p = none) (r : RepL G w.Hs us ds) : RelC G ⟨w.as ++ [p], w.Hs⟩ (cs ++ [.lst ds]) (upd H p (.lst us)) := by
  have hs := R.fresh hp
  have np : p ∉ w.as := fun hm => by
    obtain ⟨i, hi, e⟩ := List.getElem_of_mem hm
    have e' : w.as[i]? = some p := by rw [List.getElem?_eq_getElem hi, e]
    have hc : i < cs.length := by rw [← R.len]; exact hi
    have q := R.ok i p _ e' (List.getElem?_eq_getElem hc)
    cases z : cs[i] with
    | dead => rw [z] at q; obtain ⟨o, q⟩ := q; rw [hs] at q; cases q
    | lst ds => rw [z] at q; obtain ⟨_, us, q, _⟩ := q; rw [hp] at q; cases q
    | nst js => rw [z] at q; obtain ⟨_, _, us, q, _⟩ := q; rw [hp] at q; cases q
    | ins C fs => rw [z] at q; obtain ⟨_, dx, us, q, _⟩ := q; rw [hp] at q; cases q
    | dic kvs =>
      rw [z] at q
      obtain ⟨_, ⟨us, q, _⟩ | ⟨us, q, _⟩⟩ := q
      · rw [hp] at q; cases q
      · rw [hp] at q; cases q
  have G1 : RelC G ⟨w.as, w.Hs⟩ cs (upd H p (.lst us)) := R.growX (Exd.refl _) (Exd.new hp) (fun a o e => Exd.new hp a o (R.ex a o e)) fun a o e => .inl e
  refine ⟨by simp [R.len], ?_, G1.ex, fun i a c ea ec => ?_⟩
  · rw [List.nodup_append]
    exact ⟨R.nd, by simp, fun a ha b hb e => by
      have hb' : b = p := by simpa using hb
      subst hb'; subst e; exact np ha⟩
  · by_cases hi : i < w.as.length
    · have ea' : w.as[i]? = some a := by rw [← ea]; show _ = (w.as ++ [p])[i]?; rw [List.getElem?_append_left hi]
      have ec' : cs[i]? = some c := by rw [← ec, List.getElem?_append_left (by rw [← R.len]; exact hi)]
      have q := G1.ok i a c ea' ec'
      cases c with
      | nst js =>
        obtain ⟨q0, qj, us, q1, q2⟩ := q
        refine ⟨q0, qj, us, q1, q2.trans (List.map_congr_left fun j hj => ?_)⟩
        show w.as[j]? = (w.as ++ [p])[j]?
        rw [List.getElem?_append_left (Nat.lt_trans (qj j hj) hi)]
      | _ => exact q
    · have hi2 : i = w.as.length := by
        have := (List.getElem?_eq_some_iff.mp ea).1
        simp at this
        omega
      subst hi2
      have ea' : a = p := by
        have z : (w.as ++ [p])[w.as.length]? = some a := ea
        rw [List.getElem?_append_right (Nat.le_refl _)] at z
        simpa using z.symm
      have ec' : c = .lst ds := by
        rw [R.len, List.getElem?_append_right (Nat.le_refl _)] at ec
        simpa using ec.symm
      subst ea' ec'
      exact ⟨hs, us, upd_same, r⟩
theorem Wd.le.snoc {w : Wd} {p : Addr} : w.le ⟨w.as ++ [p], w.Hs⟩ := ⟨⟨[p], rfl⟩, Exd.refl _⟩
theorem repV_last {w : Wd} {p : Addr} {n : Nat} (h : w.as.length = n) : RepV G ⟨w.as ++ [p], w.Hs⟩ (.ref p) (.rf n) := ⟨p, by
  show (w.as ++ [p])[n]? = some p
  rw [← h, List.getElem?_append_right (Nat.le_refl _)]; simp, rfl⟩
/-- name = a list that will be changed -/
def setCS (i : Nat) (f : S → Res (List D)) : S → SRes := fun st => bindS (f st) fun ds s => .nx ⟨s.r.set i (some (.rf s.c.length)), s.c ++ [.lst ds]⟩
theorem sf_setC (i : Nat) {x : Str} {pos' : Pos} {f : S → Res (List D)} (hN : X.N.Nodup) (hi : X.N[i]? = some x) (hx : Loc X.env.scope x) (h : LF X G W e f) (hs : swapsWith e (some (.Name x pos')) pos.line X.env = pure false := by rfl)
    (hf : X.fn x = true ∨ X.env.scope.names.lookup x = some .local := by first | exact .inl rfl | exact .inr rfl | assumption) (hr : G.fr i := by exact True.intro) : SF X G W (.Assign [.Name x pos'] e pos) (setCS i f) := (ps_set hN hi hx h hs hf).imp fun D σ H ⟨w, st, R, q⟩ => by
  refine ⟨w, st, R, q.bindE fun w1 H1 s1 ds _ R1 q1 p us hp r => ?_⟩
  have l : w1.le ⟨w1.as ++ [p], w1.Hs⟩ := .snoc
  exact q1 ⟨w1.as ++ [p], w1.Hs⟩ _ _ l ⟨(R1.v.mono l).set (repV_last R1.c.len) hr, R1.c.cellL hp r⟩
end

/-! ### defs -/
def PostF (G : Gx) (w : Wd) (Q : VK) (E : XK) (r : FRes) : Prop := match r with
  | .ok d cs => ∀ w' H' v, w.le w' → RelC G w' cs H' → RepV G w' v d → Q v H'
  | .exc x cs => ∀ w' H' cls dd, w.le w' → RelC G w' cs H' → XRep G w' cls dd x → E cls dd H'
  | .bad => False
abbrev FS := List Val → List Cell → FRes
def spF (G : Gx) (n : Nat) (F : FS) : Sp := fun vs H Q E => ∃ w cs ds, RelC G w cs H ∧ RepVs G w vs ds ∧ ds.length = n ∧ PostF G w Q E (F ds cs)
def outV (n : Nat) (v : Val) (c : List Cell) : FRes := match v with
  | .d x => .ok (.d x) (c.take n)
  | .rf j => if j < n then .ok (.rf j) (c.take n) else match c[j]? with
    | some (.lst ds) => .ok (.rf n) (c.take n ++ [.lst ds])
    | some (.dic kvs) => .ok (.rf n) (c.take n ++ [.dic kvs])
    | _ => .bad
def r0 (m : Nat) (ds : List Val) : List (Option Val) := ds.map some ++ List.replicate (m - ds.length) none
/-- the function of a body -/
def fnF (m : Nat) (g : S → SRes) : FS := fun ds cs => match g ⟨r0 m ds, cs⟩ with
  | .nx s => outV cs.length (.d .non) s.c
  | .ret v s => outV cs.length v s.c
  | .exc x s => .exc x (s.c.take cs.length)
  | _ => .bad
section
variable {G : Gx} {P : Program} {w : World} {K : PySem.W.Frag} {mg : Str → Option Value} {base : Heap}
theorem RelC.cut {w : Wd} {cs : List Cell} {H : Hp} (R : RelC G w cs H) (n : Nat) : RelC G ⟨w.as.take n, w.Hs⟩ (cs.take n) H := by
  refine ⟨by simp [R.len], R.nd.sublist (List.take_sublist _ _), R.ex, fun i a c ea ec => ?_⟩
  have ea : (w.as.take n)[i]? = some a := ea
  have hi : i < n := by
    have := (List.getElem?_eq_some_iff.mp ea).1
    rw [List.length_take] at this
    omega
  rw [List.getElem?_take_of_lt hi] at ea ec
  have q := R.ok i a c ea ec
  cases c with
  | nst js =>
    obtain ⟨q0, qj, us, q1, q2⟩ := q
    refine ⟨q0, qj, us, q1, q2.trans (List.map_congr_left fun j hj => ?_)⟩
    show w.as[j]? = (w.as.take n)[j]?
    rw [List.getElem?_take_of_lt (Nat.lt_trans (qj j hj) hi)]
  | _ => exact q
theorem Wd.le.cut {w w' : Wd} (l : w.le w') {n : Nat} (h : w.as.length = n) : (⟨w'.as.take n, w'.Hs⟩ : Wd) = ⟨w.as, w'.Hs⟩ ∧ w.le ⟨w'.as.take n, w'.Hs⟩ := by
  obtain ⟨⟨t, e⟩, hs⟩ := l
  have z : w'.as.take n = w.as := by rw [e, ← h]; simp
  exact ⟨by rw [z], ⟨⟨[], by simp [z]⟩, hs⟩⟩
/-- one more cell, taken over -/
theorem RelC.keepOne {w : Wd} {cs : List Cell} {H : Hp} (R : RelC G w cs H) (n : Nat) {j : Nat} {a : Addr} {c : Cell} (hn : n ≤ j) (ha : w.as[j]? = some a) (hc : cs[j]? = some c) (hq : ∀ w' i, w'.Hs = w.Hs → CellOk G w H j a c → CellOk G w' H i a c) :
    RelC G ⟨w.as.take n ++ [a], w.Hs⟩ (cs.take n ++ [c]) H := by
  have R1 := R.cut n
  have hjl := (List.getElem?_eq_some_iff.mp ha).1
  have hl : (w.as.take n).length = n := by rw [List.length_take]; omega
  have hcl : (cs.take n).length = n := by rw [List.length_take, ← R.len]; omega
  have na : a ∉ w.as.take n := fun hm => by
    obtain ⟨i, hi, e⟩ := List.getElem_of_mem hm
    rw [hl] at hi
    rw [List.getElem_take] at e
    have e2 := (List.getElem?_eq_some_iff.mp ha).2
    have := (List.getElem_inj R.nd).mp (e.trans e2.symm)
    omega
  refine ⟨by simp [hl, hcl], ?_, R.ex, fun i b d ea ed => ?_⟩
  · show (w.as.take n ++ [a]).Nodup
    rw [List.nodup_append]
    exact ⟨R1.nd, by simp, fun x hx y hy e => by
      have hy' : y = a := by simpa using hy
      subst hy'; subst e; exact na hx⟩
  · have ea : (w.as.take n ++ [a])[i]? = some b := ea
    by_cases hi : i < n
    · rw [List.getElem?_append_left (by rw [hl]; exact hi)] at ea
      rw [List.getElem?_append_left (by rw [hcl]; exact hi)] at ed
      have q := R1.ok i b d ea ed
      cases d with
      | nst js =>
        obtain ⟨q0, qj, us, q1, q2⟩ := q
        refine ⟨q0, qj, us, q1, q2.trans (List.map_congr_left fun j hj => ?_)⟩
        show (w.as.take n)[j]? = (w.as.take n ++ [a])[j]?
        rw [List.getElem?_append_left (by rw [hl]; exact Nat.lt_trans (qj j hj) hi)]
      | _ => exact q
    · have hi2 : i = n := by
        have := (List.getElem?_eq_some_iff.mp ea).1
        simp [hl] at this
        omega
      subst hi2
      rw [List.getElem?_append_right (by rw [hl]; exact Nat.le_refl _), hl] at ea
      rw [List.getElem?_append_right (by rw [hcl]; exact Nat.le_refl _), hcl] at ed
      have ea' : b = a := by simpa using ea.symm
      have ed' : d = c := by simpa using ed.symm
      subst ea' ed'
      exact hq _ _ rfl (R.ok j b d ha hc)
theorem outV_ok {w1 : Wd} {cs : List Cell} {c : List Cell} {H' : Hp} {v : Val} {u : V} {w0 : Wd} {Q : VK} {E : XK} (l : w0.le w1) (h0 : w0.as.length = cs.length) (R : RelC G w1 c H') (ru : RepV G w1 u v) (q : PostF G w0 Q E (outV cs.length v c)) : Q u H' := by
  obtain ⟨e1, l1⟩ := l.cut h0
  cases v with
  | d x =>
    exact q ⟨w1.as.take cs.length, w1.Hs⟩ H' u l1 (R.cut _) ru
  | rf j =>
    obtain ⟨a, ha, rfl⟩ := ru
    unfold outV at q
    by_cases hj : j < cs.length
    · simp only [hj, if_true] at q
      exact q ⟨w1.as.take cs.length, w1.Hs⟩ H' _ l1 (R.cut _) ⟨a, by rw [show (⟨w1.as.take cs.length, w1.Hs⟩ : Wd).as = w1.as.take cs.length from rfl, List.getElem?_take_of_lt hj]; exact ha, rfl⟩
    · simp only [hj, if_false] at q
      have hn : cs.length ≤ j := Nat.le_of_not_lt hj
      have hl : (w1.as.take cs.length).length = cs.length := by
        have := (List.getElem?_eq_some_iff.mp ha).1
        rw [List.length_take]; omega
      have l2 : w0.le ⟨w1.as.take cs.length ++ [a], w1.Hs⟩ := l1.trans .snoc
      have fin : RepV G ⟨w1.as.take cs.length ++ [a], w1.Hs⟩ (.ref a) (.rf cs.length) := repV_last (w := ⟨w1.as.take cs.length, w1.Hs⟩) hl
      cases e : c[j]? with
      | none => rw [e] at q; exact q.elim
      | some cc =>
        rw [e] at q
        cases cc with
        | lst ds => exact q _ H' _ l2 (R.keepOne cs.length hn ha e fun w' i hs z => by
            obtain ⟨z0, us, z1, z2⟩ := z
            exact ⟨by rw [hs]; exact z0, us, z1, by rw [hs]; exact z2⟩) fin
        | dic kvs => exact q _ H' _ l2 (R.keepOne cs.length hn ha e fun w' i hs z => by
            obtain ⟨z0, z⟩ := z
            refine ⟨by rw [hs]; exact z0, ?_⟩
            rw [hs]; exact z) fin
        | dead => exact q.elim
        | nst js => exact q.elim
        | ins C fs => exact q.elim
theorem repVs_r0 {w : Wd} {N : List Str} (hx : G.ex = none) : ∀ {vs : List V} {ds : List Val}, RepVs G w vs ds → RelV G w (r0 N.length ds) (L2.start N vs) := by
  intro vs ds h
  have hl := h.length
  refine ⟨by unfold r0 L2.start; simp [hl], fun i d e => ?_, .of_none hx⟩
  unfold r0 at e
  by_cases hi : i < ds.length
  · rw [List.getElem?_append_left (by simpa using hi)] at e
    have key : ∀ {vs : List V} {ds : List Val} {i : Nat} {d : Val}, RepVs G w vs ds → (ds.map some)[i]? = some (some d) → ∃ v, (vs.map some)[i]? = some (some v) ∧ RepV G w v d := by
      intro vs ds i d h
      induction h generalizing i with
      | nil => intro e; simp at e
      | cons a b ih =>
        cases i with
        | zero => intro e; simp at e; subst e; exact ⟨_, rfl, a⟩
        | succ i => intro e; simpa using ih (by simpa using e)
    obtain ⟨v, e2, r⟩ := key h e
    refine ⟨v, ?_, r⟩
    unfold L2.start
    rw [List.getElem?_append_left (by simpa [hl] using hi)]
    exact e2
  · rw [List.getElem?_append_right (by simpa using hi)] at e
    have := List.mem_of_getElem? e
    simp at this
abbrev cxF (P : Program) (w : World) (K : PySem.W.Frag) (mg : Str → Option Value) (base : Heap) (N : List Str) (qual : Str) (scope : Scope) (f : Addr) (cd : Value) (A : Around) (outer : List Env) (s : Shared) (H : Hp) (E : XK) : Cx :=
  cxOf (L2.CX P w) P w K mg base N qual scope f cd A outer s H E
abbrev WE (E : XK) : WX := fun cls d _ H => E cls d H
/-- THE RULE of a def -/
theorem fn_ok {x qual : Str} {st : Stmt} {f : Addr} {fd : FuncData} {N ps : List Str} {k : Nat} {g : S → SRes} {n : Nat} (F : Fun K x qual st f fd) (Sc : FnScope N ps (defScope st)) (hn : ps.length = n) (hK : G.K = K) (hx : G.ex = none)
    (hbody : ∀ (cdv : Value) (A : Around) (outer : List Env) (s : Shared) (H : Hp) (E : XK), Fx (cxF P w K mg base N qual (defScope st) f cdv A outer s H E) G (WE E) k →
      SFs (cxF P w K mg base N qual (defScope st) f cdv A outer s H E) G (WE E) (defBody st) g) : FnOk P w K mg base (L2.CX P w) (k + 1) f fd ps (spF G n (fnF N.length g)) := by
  refine F.okX Sc (fun vs H Q E h => ?_) (fun cdv A outer s H vs Q E hr h => ?_)
  · obtain ⟨w, cs, ds, _, r, hl, _⟩ := h
    rw [r.length, hl, hn]
  · refine ⟨_, hbody cdv A outer s H E (.of hK.symm Sc.nd hr (takes_of rfl rfl rfl rfl) (passes_of rfl) rfl), ?_⟩
    obtain ⟨w0, cs, ds, R, r, hl, q⟩ := h
    refine ⟨w0, ⟨r0 N.length ds, cs⟩, ⟨repVs_r0 hx r, R⟩, ?_⟩
    unfold fnF at q
    cases e : g ⟨r0 N.length ds, cs⟩ with
    | nx s1 =>
      rw [e] at q
      exact fun w1 σ1 H1 l1 R1 => outV_ok l1 R.len R1.c (v := .d .non) (u := .non) Rep.non q
    | ret v s1 =>
      rw [e] at q
      exact fun w1 σ1 H1 u l1 R1 ru => outV_ok l1 R.len R1.c ru q
    | exc x s1 =>
      rw [e] at q
      intro w1 σ1 H1 cls dd l1 R1 qx
      obtain ⟨_, l2⟩ := l1.cut R.len
      exact q ⟨w1.as.take cs.length, w1.Hs⟩ H1 cls dd l2 (R1.c.cut _) ⟨qx.cls, qx.dict⟩
    | brk s1 => rw [e] at q; exact q.elim
    | ct s1 => rw [e] at q; exact q.elim
    | bad => rw [e] at q; exact q.elim
theorem fn_bad {f : Addr} {fd : FuncData} {ps : List Str} {k n : Nat} : FnOk P w K mg base (L2.CX P w) k f fd ps (spF G n fun _ _ => .bad) :=
  ⟨fun vs H Q E ⟨_, _, _, _, _, _, q⟩ => q.elim, fun A outer s H args us vs Q E hr he hb hv ⟨_, _, _, _, _, _, q⟩ => q.elim⟩
/-- another function that does the same -/
theorem fn_same {f : Addr} {fd : FuncData} {ps : List Str} {k n : Nat} {F F' : FS} (h : FnOk P w K mg base (L2.CX P w) k f fd ps (spF G n F)) (e : ∀ ds cs, F' ds cs ≠ .bad → F ds cs = F' ds cs) : FnOk P w K mg base (L2.CX P w) k f fd ps (spF G n F') :=
  h.imp fun vs H Q E ⟨w, cs, ds, R, r, hl, q⟩ => ⟨w, cs, ds, R, r, hl, by
    rw [e ds cs (fun z => by rw [z] at q; exact q)]; exact q⟩
end

/-! ### calls -/
def liftF (r : List (Option Val)) (o : FRes) : Res Val := match o with
  | .ok v c => .ok v ⟨r, c⟩
  | .exc x c => .exc x ⟨r, c⟩
  | .bad => .bad
def callF (F : FS) (n : Nat) (g : S → Res (List Val)) : S → Res Val := fun st => bindR (g st) fun xs s => if xs.length = n then liftF s.r (F xs s.c) else .bad
section
variable {X : Cx} {G : Gx} {W : WX} {k : Nat}
theorem postF_of {w : Wd} {r : List (Option Val)} {σ : L2.St} {Q : VK} {o : FRes} (V : RelV G w r σ) (q : PostE G W σ w (liftF r o) fun w' H' _ d => ∀ v, RepV G w' v d → Q v H') : PostF G w Q (fun cls d H => W cls d σ H) o := by
  cases o with
  | ok v c => exact fun w1 H1 u l1 R1 ru => q w1 H1 l1 ⟨V.mono l1, R1⟩ u ru
  | exc x c => exact fun w1 H1 cls dd l1 R1 qx => q w1 H1 cls dd l1 ⟨V.mono l1, R1⟩ qx
  | bad => exact q.elim
theorem ef_call {f : Addr} {fd : FuncData} {ps : List Str} {n j : Nat} {F : FS} {x : Str} {p pos : Pos} {e : Expr} {es : List Expr} {g : S → Res (List Val)} (C : Fx X G W k) (Fo : FnOk X.prog X.w X.K X.mg X.base (L2.CX X.prog X.w) j f fd ps (spF G n F)) (hj : j ≤ k)
    (hg : Gl X x) (hm : X.mg x = some (.ref f)) (hk : PySem.W.keepIn X.K (.ref f) = true) (hb : Binds X.K fd ps [])
    (ha : AF X G W (e :: es) g) (hdb : (x == ("__debug__" : Str)) = false := by decide) (he : starEach (e :: es) X.env = (false, eval e X.env) :: starEach es X.env := by rfl) (hpl : (backTo pos (starEach es X.env)).any (·.1) = false := by rfl) :
    EF X G W (.Call (.Name x p) (e :: es) [] pos) (callF F n g) :=
  (pe_callSD (E := fun σ cls d H => W cls d σ H) Fo (C.hr.mono hj) hg hm hk hb .nil (fun σ pins H s e' s' I c => C.tk e' s' (XE.of_call I (fun _ _ _ h => h) c)) ha hdb he hpl).imp fun σ H Q ⟨w, st, R, q⟩ => by
    refine ⟨w, st, R, q.bind fun w1 H1 s1 xs _ R1 q1 vs rvs => ?_⟩
    by_cases hl : xs.length = n
    · rw [if_pos hl] at q1
      exact ⟨w1, s1.c, xs, R1.c, by rw [List.append_nil]; exact rvs, hl, postF_of R1.v q1⟩
    · rw [if_neg hl] at q1
      exact q1.elim
end
end FL

set_option Elab.async false
set_option linter.all false
set_option maxRecDepth 100000
set_option maxHeartbeats 4000000
namespace FL
open PySem PySem.Spec PyProof.Rows L2

section
variable {X : Cx} {G : Gx} {W : WX}
/-- the items of a list or a tuple -/
def listOf : Val → List Cell → Option (List D)
  | .d (.lst ds), _ => some ds
  | .d (.tup ds), _ => some ds
  | .d (.scr ds), _ => some ds
  | .rf j, cs => match cs[j]? with
    | some (.lst ds) => some ds
    | _ => none
  | _, _ => none
theorem RelC.cell {w : Wd} {cs : List Cell} {H : Hp} (R : RelC G w cs H) {x : V} {j : Nat} {c : Cell} (r : RepV G w x (.rf j)) (h : cs[j]? = some c) : ∃ a, x = .ref a ∧ w.as[j]? = some a ∧ CellOk G w H j a c := by
  obtain ⟨a, e, rfl⟩ := r
  exact ⟨a, rfl, e, R.ok j a c e h⟩
theorem seq_of {w : Wd} {cs : List Cell} {H : Hp} (R : RelC G w cs H) {x : V} {d : Val} {ds : List D} (r : RepV G w x d) (h : listOf d cs = some ds) : ∃ a vs, x = .ref a ∧ (SqL G.K H a vs ∨ SqT G.K H a vs) ∧ RepL G w.Hs vs ds := by
  cases d with
  | d d =>
    cases d with
    | lst es => cases h; cases r with | lst hs hr => exact ⟨_, _, rfl, .inl (.inl (.inl (R.ex _ _ hs))), hr⟩
    | scr es => cases h; cases r with | scr hs hr => exact ⟨_, _, rfl, .inl (R.ex.l hs), hr⟩
    | tup es => cases h; cases r with | tup hs hr => exact ⟨_, _, rfl, .inr (R.ex.t hs), hr⟩
    | _ => cases h
  | rf j =>
    unfold listOf at h
    cases e : cs[j]? with
    | none => simp only [e] at h; cases h
    | some c =>
      simp only [e] at h
      cases c with
      | lst es =>
        cases h
        obtain ⟨a, rfl, _, q⟩ := R.cell r e
        obtain ⟨_, us, q1, q2⟩ := q
        exact ⟨a, us, rfl, .inl (.inl (.inl q1)), q2⟩
      | _ => cases h
theorem _root_.L2.OpR.imp {f : Value → Value → Sem Value} {r r' : R2} (h : OpR X f r) (k : ∀ x y H Q, r' x y H Q → r x y H Q) : OpR X f r' := fun pins s σ H x y v u Q I rx ry q => h pins s σ H x y v u Q I rx ry (k x y H Q q)
theorem _root_.L2.IxR.imp {r r' : R2} (h : IxR X r) (k : ∀ x y H Q, r' x y H Q → r x y H Q) : IxR X r' := fun value slice pins s σ H x y v u Q I rx ry q hs => h value slice pins s σ H x y v u Q I rx ry (k x y H Q q) hs
theorem _root_.L2.CallR.imp {f : Value} {r r' : List V → Hp → VK → Prop} (h : CallR X f r) (k : ∀ xs H Q, r' xs H Q → r xs H Q) : CallR X f r' := fun pins s σ H xs us Q I rs q => h pins s σ H xs us Q I rs (k xs H Q q)
theorem _root_.L2.MtR.imp {id : String} {r r' : V → List V → Hp → VK → Prop} (h : MtR X id r) (k : ∀ x xs H Q, r' x xs H Q → r x xs H Q) : MtR X id r' := fun pins s σ H x xs v us Q I rx rs q => h pins s σ H x xs v us Q I rx rs (k x xs H Q q)
/-- nothing new in the heap -/
theorem Give.here {w : Wd} {cs : List Cell} {H : Hp} {d : Val} {Q : VK} {v : V} (R : RelC G w cs H) (q : Give G w cs (some d) Q) (r : RepV G w v d) : Q v H := q w.Hs H v (Exd.refl _) R r
/-- a new tuple, a new list that is not changed -/
theorem Give.tup {w : Wd} {cs : List Cell} {H : Hp} {ds : List D} {Q : VK} {vs : List V} {p : Addr} (R : RelC G w cs H) (q : Give G w cs (some (.d (.tup ds))) Q) (r : RepL G w.Hs vs ds) (hp : H p = none) : Q (.ref p) (upd H p (.tup vs)) :=
  q (upd w.Hs p (.tup vs)) _ (.ref p) (Exd.new (R.fresh hp)) (R.grow hp (R.fresh hp)) (Rep.tup (.inl (.inl upd_same)) (r.mono (Exd.new (R.fresh hp))))
theorem Give.lst {w : Wd} {cs : List Cell} {H : Hp} {ds : List D} {Q : VK} {vs : List V} {p : Addr} (R : RelC G w cs H) (q : Give G w cs (some (.d (.lst ds))) Q) (r : RepL G w.Hs vs ds) (hp : H p = none) : Q (.ref p) (upd H p (.lst vs)) :=
  q (upd w.Hs p (.lst vs)) _ (.ref p) (Exd.new (R.fresh hp)) (R.grow hp (R.fresh hp)) (Rep.lst upd_same (r.mono (Exd.new (R.fresh hp))))

/-! ### ints -/
def intOf : Val → Option Int
  | .d (.int i) => some i
  | _ => none
theorem int_of {w : Wd} {x : V} {d : Val} {i : Int} (r : RepV G w x d) (h : intOf d = some i) : x = .int i := by
  cases d with
  | rf j => cases h
  | d d =>
    cases d with
    | int k => cases h; cases r; rfl
    | _ => cases h
/-- an operator of ints under a condition -/
def ii (c : Int → Int → Bool) (g : Int → Int → D) : O2 := fun x y _ => match intOf x, intOf y with
  | some i, some j => if c i j = true then some (.d (g i j)) else none
  | _, _ => none
theorem opF_ii {f : Value → Value → Sem Value} {C : Int → Int → Prop} {g : Int → Int → V} {c : Int → Int → Bool} {gd : Int → Int → D} (h : OpR X f (rI C g)) (hc : ∀ i j, c i j = true → C i j) (hg : ∀ H i j, Rep G H (g i j) (gd i j)) : OpF X G f (ii c gd) :=
  h.imp fun x y H Q ⟨w, cs, dx, dy, R, rx, ry, q⟩ => by
    unfold ii at q
    cases e1 : intOf dx with
    | none => rw [e1] at q; exact q.elim
    | some i =>
      cases e2 : intOf dy with
      | none => rw [e1, e2] at q; exact q.elim
      | some j =>
        rw [e1, e2] at q
        by_cases z : c i j = true
        · have q' : Give G w cs (if c i j = true then some (.d (gd i j)) else none) Q := q
          rw [if_pos z] at q'
          exact ⟨i, j, int_of rx e1, int_of ry e2, hc i j z, q'.here R (hg _ i j)⟩
        · have q' : Give G w cs (if c i j = true then some (.d (gd i j)) else none) Q := q
          rw [if_neg z] at q'
          exact q'.elim
def yes : Int → Int → Bool := fun _ _ => true
theorem opF_i0 {f : Value → Value → Sem Value} {g : Int → Int → V} {gd : Int → Int → D} (h : OpR X f (rI0 g)) (hg : ∀ H i j, Rep G H (g i j) (gd i j)) : OpF X G f (ii yes gd) :=
  opF_ii (C := fun _ _ => True) (h.imp fun x y H Q ⟨i, j, h1, h2, _, q⟩ => ⟨i, j, h1, h2, q⟩) (fun _ _ _ => trivial) hg
abbrev addI : O2 := ii yes fun i j => .int (i + j)
abbrev subI : O2 := ii yes fun i j => .int (i - j)
def cMul (i j : Int) : Bool := decide (i.natAbs < 18446744073709551616) || (decide (j.natAbs < 18446744073709551616) || decide (i.natAbs.log2 + j.natAbs.log2 < 1000000))
theorem bits64 {i : Int} (h : i.natAbs < 18446744073709551616) : Builtin.Int.intBits i ≤ 64 := by
  unfold Builtin.Int.intBits
  split
  · omega
  · rename_i z
    have : i.natAbs.log2 < 64 := (Nat.log2_lt (by simpa using z)).mpr (by omega)
    omega
theorem cMul_ok {i j : Int} (h : cMul i j = true) : IntMulOk i j := by
  rcases Bool.or_eq_true_iff.mp h with h | h
  · exact .of_left (bits64 (of_decide_eq_true h))
  · rcases Bool.or_eq_true_iff.mp h with h | h
    · exact .of_right (bits64 (of_decide_eq_true h))
    · exact CMulW.ok (of_decide_eq_true (p := i.natAbs.log2 + j.natAbs.log2 < 1000000) h)
theorem op_mulV : OpR X (binaryOp .Mult) (rI IntMulOk fun i j => .int (i * j)) := opI fun _ _ _ _ _ _ _ hc q => mul_int q hc
abbrev mulI : O2 := ii cMul fun i j => .int (i * j)
def cDiv (_ j : Int) : Bool := decide (j ≠ 0 ∧ j.natAbs.log2 < 9000)
/-- floor division -/
def dvI (i j : Int) : Int := if 0 ≤ j then i / j else i.fdiv j
theorem dvI_fdiv (i j : Int) : dvI i j = i.fdiv j := by
  unfold dvI
  split
  · rename_i h; exact (Int.fdiv_eq_ediv_of_nonneg i h).symm
  · rfl
abbrev divI : O2 := ii cDiv fun i j => .int (dvI i j)
def cMod (_ j : Int) : Bool := decide (0 < j)
abbrev modI : O2 := ii cMod fun i j => .int (i % j)
def cPow (i j : Int) : Bool := decide (0 ≤ j ∧ j ≤ 1000 ∧ i.natAbs < 1000)
abbrev powI : O2 := ii cPow fun i j => .int (i ^ j.toNat)
abbrev shlI : O2 := ii cPow fun i j => .int (i * 2 ^ j.toNat)
def cShr (_ j : Int) : Bool := decide (0 ≤ j)
abbrev shrI : O2 := ii cShr fun i j => .int (i / 2 ^ j.toNat)
abbrev andI : O2 := ii yes fun i j => .int (Builtin.bitAnd i j)
abbrev xorI : O2 := ii yes fun i j => .int (Builtin.bitXor i j)
abbrev ltI : O2 := ii yes fun i j => .bl (decide (i < j))
abbrev leI : O2 := ii yes fun i j => .bl (decide (i ≤ j))
abbrev gtI : O2 := ii yes fun i j => .bl (decide (j < i))
abbrev geI : O2 := ii yes fun i j => .bl (decide (j ≤ i))
theorem cPow_ok {i j : Int} (h : cPow i j = true) : CPow i j := by
  obtain ⟨a, b, c⟩ := of_decide_eq_true h
  refine ⟨a, by omega, ?_⟩
  have : (1000 : Nat) < 2 ^ 64 := by decide
  omega
theorem oi_add : OpF X G (binaryOp .Add) addI := opF_i0 op_add fun _ _ _ => .int _
theorem oi_sub : OpF X G (binaryOp .Sub) subI := opF_i0 op_sub fun _ _ _ => .int _
theorem oi_mul : OpF X G (binaryOp .Mult) mulI := opF_ii op_mulV (fun i j h => cMul_ok h) fun _ _ _ => .int _
theorem op_fdivV : OpR X (binaryOp .FloorDiv) (rI (fun _ j => j ≠ 0 ∧ j.natAbs.log2 < 9000) fun i j => .int (i.fdiv j)) := opI fun _ _ _ _ _ _ _ hc q => floordiv_int hc.1 q (.inl (PyProof.noPylong_of_log2 hc.2))
theorem oi_div : OpF X G (binaryOp .FloorDiv) divI := opF_ii op_fdivV (fun i j h => of_decide_eq_true (p := j ≠ 0 ∧ j.natAbs.log2 < 9000) h) fun _ i j => by rw [dvI_fdiv]; exact .int _
theorem oi_mod : OpF X G (binaryOp .Mod) modI := opF_ii op_mod (fun _ _ h => of_decide_eq_true h) fun _ _ _ => .int _
theorem oi_pow : OpF X G (binaryOp .Pow) powI := opF_ii op_pow (fun _ _ h => cPow_ok h) fun _ _ _ => .int _
theorem oi_shl : OpF X G (binaryOp .LShift) shlI := opF_ii op_shl (fun _ _ h => cPow_ok h) fun _ _ _ => .int _
theorem oi_shr : OpF X G (binaryOp .RShift) shrI := opF_ii op_shr (fun _ _ h => of_decide_eq_true h) fun _ _ _ => .int _
theorem oi_and : OpF X G (binaryOp .BitAnd) andI := opF_i0 op_and fun _ _ _ => .int _
theorem oi_xor : OpF X G (binaryOp .BitXor) xorI := opF_i0 op_xor fun _ _ _ => .int _
theorem oi_lt : OpF X G (compareOp .Lt) ltI := opF_i0 op_lt fun _ _ _ => .bl _
theorem oi_le : OpF X G (compareOp .LtE) leI := opF_i0 op_le fun _ _ _ => .bl _
theorem oi_gt : OpF X G (compareOp .Gt) gtI := opF_i0 op_gt fun _ _ _ => .bl _
theorem oi_ge : OpF X G (compareOp .GtE) geI := opF_i0 op_ge fun _ _ _ => .bl _
def negI : O1 := fun x _ => (intOf x).map fun i => .d (.int (-i))
theorem oi_neg : UnR X (unaryOp .USub) (rU1 G negI) := fun pins s σ H x v Q I rx ⟨w, cs, dx, R, r, q⟩ => by
  unfold negI at q
  cases e : intOf dx with
  | none => rw [e] at q; exact q.elim
  | some i =>
    rw [e] at q
    exact un_neg pins s σ H x v Q I rx ⟨i, int_of r e, Give.here R q (.int _)⟩

/-! ### a[b] -/
def ixO : O2 := fun x y cs => match intOf y with
  | none => none
  | some i => match x with
    | .d (.str z) => if sz z.length = true then (atI z.cps.toList i).map fun c => .d (.str ⟨#[c]⟩) else none
    | .rf j => match cs[j]? with
      | some (.lst ds) => (atI ds i).map .d
      | some (.nst js) => (atI js i).map .rf
      | _ => none
    | .d (.lst ds) => (atI ds i).map .d
    | .d (.tup ds) => (atI ds i).map .d
    | .d (.scr ds) => (atI ds i).map .d
    | _ => none
theorem RepL.atI {H : Hp} {vs : List V} {ds : List D} {i : Int} {d : D} (r : RepL G H vs ds) (h : L2.atI ds i = some d) : ∃ v, L2.atI vs i = some v ∧ Rep G H v d := by
  unfold L2.atI at h ⊢
  rw [r.length]
  cases e : ixN ds.length i with
  | none => rw [e] at h; cases h
  | some j =>
    rw [e] at h
    exact r.get h
theorem oi_ix (hK : X.K = G.K) : IxR X (rO G ixO) := ix_seq.imp fun x y H Q ⟨w, cs, dx, dy, R, rx, ry, q⟩ => by
  unfold ixO at q
  cases e : intOf dy with
  | none => rw [e] at q; exact q.elim
  | some i =>
    simp only [e] at q
    have ey := int_of ry e
    subst ey
    have seq : ∀ {ds : List D} {a : Addr} {vs : List V}, x = .ref a → (SqL G.K H a vs ∨ SqT G.K H a vs) → RepL G w.Hs vs ds → Give G w cs ((L2.atI ds i).map .d) Q → rIx X.K x (.int i) H Q := by
      intro ds a vs ex hq r q
      subst ex
      cases ea : L2.atI ds i with
      | none => rw [ea] at q; exact q.elim
      | some d =>
        rw [ea] at q
        obtain ⟨v, ev, rv⟩ := r.atI ea
        rw [← hK] at hq
        rcases hq with hq | hq
        · exact .inl ⟨a, vs, i, v, rfl, rfl, hq, ev, Give.here R q rv⟩
        · exact .inr (.inl ⟨a, vs, i, v, rfl, rfl, hq, ev, Give.here R q rv⟩)
    cases dx with
    | rf j =>
      simp only at q
      cases ec : cs[j]? with
      | none => simp only [ec] at q; exact q.elim
      | some c =>
        simp only [ec] at q
        obtain ⟨a, ea, eas, ok⟩ := R.cell rx ec
        cases c with
        | lst ds =>
          obtain ⟨_, us, q1, q2⟩ := ok
          exact seq ea (.inl (.inl (.inl q1))) q2 q
        | nst js =>
          obtain ⟨_, qj, bs, q1, q2⟩ := ok
          subst ea
          cases ei : L2.atI js i with
          | none => simp only [ei] at q; exact q.elim
          | some m =>
            simp only [ei] at q
            have hlen : bs.length = js.length := by simpa using congrArg List.length q2
            unfold L2.atI at ei
            cases en : ixN js.length i with
            | none => rw [en] at ei; cases ei
            | some n =>
              rw [en] at ei
              have ei : js[n]? = some m := ei
              have hn : n < bs.length := by rw [hlen]; exact (List.getElem?_eq_some_iff.mp ei).1
              have z : (bs.map some)[n]? = (js.map fun j => w.as[j]?)[n]? := by rw [q2]
              rw [List.getElem?_map, List.getElem?_map, ei, List.getElem?_eq_getElem hn] at z
              have z : some bs[n] = w.as[m]? := Option.some.inj z
              refine .inl ⟨a, bs.map V.ref, i, .ref bs[n], rfl, rfl, .inl (.inl q1), ?_, Give.here R q ⟨bs[n], z.symm, rfl⟩⟩
              unfold L2.atI
              rw [List.length_map, hlen, en]
              show (bs.map V.ref)[n]? = _
              rw [List.getElem?_map, List.getElem?_eq_getElem hn]; rfl
        | _ => exact q.elim
    | d d =>
      cases d with
      | lst ds => cases rx with | lst hs hr => exact seq rfl (.inl (.inl (.inl (R.ex _ _ hs)))) hr q
      | scr ds => cases rx with | scr hs hr => exact seq rfl (.inl (R.ex.l hs)) hr q
      | tup ds => cases rx with | tup hs hr => exact seq rfl (.inr (R.ex.t hs)) hr q
      | str z =>
        cases rx
        by_cases hz : sz z.length = true
        · simp only [hz, if_true] at q
          cases ea : L2.atI z.cps.toList i with
          | none => rw [ea] at q; exact q.elim
          | some c =>
            rw [ea] at q
            exact .inr (.inr ⟨z, i, c, rfl, rfl, sz_le hz, ea, Give.here R q (.str _)⟩)
        · simp only [hz] at q; exact q.elim
      | _ => exact q.elim
theorem ef_ix {a b : Expr} {fa fb : S → Res Val} {pos : Pos} (hK : X.K = G.K) (ha : EF X G W a fa) (hb : EF X G W b fb) (hs : PlainIx b) : EF X G W (.Subscript a b pos) (binF ixO fa fb) := (pe_ix (oi_ix hK) ha hb hs).imp fun _ _ _ h => rO_of h

/-! ### built-ins by values -/
abbrev ON := List Val → List Cell → Option Val
def rN (G : Gx) (o : ON) : List V → Hp → VK → Prop := fun vs H Q => ∃ w cs ds, RelC G w cs H ∧ RepVs G w vs ds ∧ Give G w cs (o ds cs) Q
def cbF (o : ON) (g : S → Res (List Val)) : S → Res Val := fun st => bindR (g st) fun xs s => optR (o xs s.c) s
theorem rN_of {o : ON} {g : S → Res (List Val)} {σ : L2.St} {H : Hp} {Q : VK} (h : tI G W (cbF o g) σ H Q) : tCB (rN G o) (tIA G W g) σ H Q := by
  obtain ⟨w, st, R, q⟩ := h
  exact ⟨w, st, R, q.bind fun w1 H1 s1 xs _ R1 q1 vs rvs => ⟨w1, s1.c, xs, R1.c, rvs, give_of R1 q1⟩⟩
theorem ef_callB {o : ON} {id : String} {x : Str} {p pos : Pos} {e : Expr} {es : List Expr} {g : S → Res (List Val)} (hc : CallR X (.builtin id) (rN G o)) (hg : Gl X x) (hm : X.mg x = none) (hv : bootBuiltins x = some (.builtin id)) (ha : AF X G W (e :: es) g) (hn : x ≠ "__name__" := by decide) (hdb : (x == ("__debug__" : Str)) = false := by decide)
    (he : starEach (e :: es) X.env = (false, eval e X.env) :: starEach es X.env := by rfl) (hpl : (backTo pos (starEach es X.env)).any (·.1) = false := by rfl) : EF X G W (.Call (.Name x p) (e :: es) [] pos) (cbF o g) := (pe_callB hc hg hm hv ha hn hdb he hpl).imp fun _ _ _ h => rN_of h
theorem ef_callTy {o : ON} {T : String} {x : Str} {p pos : Pos} {e : Expr} {es : List Expr} {g : S → Res (List Val)} (hc : CallR X (.type T) (rN G o)) (hg : Gl X x) (hm : X.mg x = none) (hv : bootBuiltins x = some (.type T)) (ha : AF X G W (e :: es) g) (hn : x ≠ "__name__" := by decide) (hdb : (x == ("__debug__" : Str)) = false := by decide)
    (he : starEach (e :: es) X.env = (false, eval e X.env) :: starEach es X.env := by rfl) (hpl : (backTo pos (starEach es X.env)).any (·.1) = false := by rfl) : EF X G W (.Call (.Name x p) (e :: es) [] pos) (cbF o g) := (pe_callTy hc hg hm hv ha hn hdb he hpl).imp fun _ _ _ h => rN_of h
theorem repVs_one {w : Wd} {vs : List V} {d : Val} (h : RepVs G w vs [d]) : ∃ v, vs = [v] ∧ RepV G w v d := by
  cases h with
  | cons a b => cases b; exact ⟨_, rfl, a⟩
theorem repVs_two {w : Wd} {vs : List V} {d e : Val} (h : RepVs G w vs [d, e]) : ∃ v u, vs = [v, u] ∧ RepV G w v d ∧ RepV G w u e := by
  cases h with
  | cons a b =>
    obtain ⟨u, rfl, r⟩ := repVs_one b
    exact ⟨_, u, rfl, a, r⟩
def lenO : ON := fun xs cs => match xs with
  | [x] => match listOf x cs with
    | some ds => some (.d (.int ds.length))
    | none => match x with
      | .d (.str z) => if sz z.length = true then some (.d (.int z.length)) else none
      | _ => none
  | _ => none
theorem ob_len (hK : X.K = G.K) : CallR X (.builtin "len") (rN G lenO) := (call_len_seq.or call_len_str).imp fun vs H Q ⟨w, cs, ds, R, r, q⟩ => by
  cases ds with
  | nil => exact q.elim
  | cons x t =>
    cases t with
    | cons _ _ => exact q.elim
    | nil =>
      obtain ⟨v, rfl, rv⟩ := repVs_one r
      unfold lenO at q
      cases e : listOf x cs with
      | some ds =>
        simp only [e] at q
        obtain ⟨a, us, rfl, hq, rl⟩ := seq_of R rv e
        refine .inl ⟨a, us, rfl, by rw [hK]; exact hq, ?_⟩
        rw [rl.length]
        exact Give.here R q (.int _)
      | none =>
        simp only [e] at q
        cases x with
        | rf j => exact q.elim
        | d x =>
          cases x with
          | str z =>
            cases rv
            by_cases hz : sz z.length = true
            · simp only [hz, if_true] at q
              exact .inr ⟨z, rfl, sz_le hz, Give.here R q (.int _)⟩
            · simp only [hz] at q; exact q.elim
          | _ => exact q.elim
def intO : ON := fun xs _ => match xs with
  | [.d (.int i)] => some (.d (.int i))
  | [.d (.bl b)] => some (.d (.int (if b = true then 1 else 0)))
  | _ => none
theorem ob_int : CallR X (.type "int") (rN G intO) := call_int1.imp fun vs H Q ⟨w, cs, ds, R, r, q⟩ => by
  cases ds with
  | nil => exact q.elim
  | cons x t =>
    cases t with
    | cons _ _ => cases x with
      | rf j => exact q.elim
      | d x => cases x <;> exact q.elim
    | nil =>
      obtain ⟨v, rfl, rv⟩ := repVs_one r
      cases x with
      | rf j => exact q.elim
      | d x =>
        cases x with
        | int i => cases rv; exact .inl ⟨i, rfl, Give.here R q (.int _)⟩
        | bl b => cases rv; exact .inr ⟨b, rfl, Give.here R q (.int _)⟩
        | _ => exact q.elim
def absO : ON := fun xs _ => match xs with
  | [.d (.int i)] => some (.d (.int (if i < 0 then -i else i)))
  | _ => none
theorem ob_abs : CallR X (.builtin "abs") (rN G absO) := call_abs.imp fun vs H Q ⟨w, cs, ds, R, r, q⟩ => by
  cases ds with
  | nil => exact q.elim
  | cons x t =>
    cases t with
    | cons _ _ => cases x with
      | rf j => exact q.elim
      | d x => cases x <;> exact q.elim
    | nil =>
      obtain ⟨v, rfl, rv⟩ := repVs_one r
      cases x with
      | rf j => exact q.elim
      | d x =>
        cases x with
        | int i => cases rv; exact ⟨i, rfl, Give.here R q (.int _)⟩
        | _ => exact q.elim
end
end FL

set_option Elab.async false
set_option linter.all false
set_option maxRecDepth 100000
set_option maxHeartbeats 4000000
namespace FL
open PySem PySem.Spec PyProof.Rows L2

section
variable {X : Cx} {G : Gx} {W : WX}
/-- one cell changes -/
theorem RelC.put {w : Wd} {cs : List Cell} {H : Hp} (R : RelC G w cs H) {j : Nat} {a : Addr} {c : Cell} {o : HO} (ea : w.as[j]? = some a) (hs : w.Hs a = none) (new : CellOk G w (upd H a o) j a c) : RelC G w (cs.set j c) (upd H a o) := by
  refine ⟨by rw [R.len, List.length_set], R.nd, fun b u e => ?_, fun i b d eb ed => ?_⟩
  · have nb : b ≠ a := fun z => by subst z; rw [hs] at e; cases e
    rw [upd_ne nb]; exact R.ex b u e
  · by_cases hi : i = j
    · subst hi
      rw [ea] at eb; cases eb
      have hl : i < cs.length := by
        have := (List.getElem?_eq_some_iff.mp ed).1
        simpa using this
      rw [List.getElem?_set_self hl] at ed; cases ed
      exact new
    · rw [List.getElem?_set_ne (Ne.symm hi)] at ed
      have nb : b ≠ a := fun z => by
        subst z
        obtain ⟨h1, e1⟩ := List.getElem?_eq_some_iff.mp ea
        obtain ⟨h2, e2⟩ := List.getElem?_eq_some_iff.mp eb
        exact hi ((List.getElem_inj R.nd).mp (e2.trans e1.symm))
      have q := R.ok i b d eb ed
      cases d with
      | dead => exact q
      | lst ds => obtain ⟨q0, us, q1, q2⟩ := q; exact ⟨q0, us, by rw [upd_ne nb]; exact q1, q2⟩
      | nst js => obtain ⟨q0, qj, us, q1, q2⟩ := q; exact ⟨q0, qj, us, by rw [upd_ne nb]; exact q1, q2⟩
      | ins C fs => obtain ⟨q0, dx, us, q1, q2⟩ := q; exact ⟨q0, dx, us, by rw [upd_ne nb]; exact q1, q2⟩
      | dic kvs =>
        obtain ⟨q0, ⟨us, q1, q2⟩ | ⟨us, q1, q2⟩⟩ := q
        · exact ⟨q0, .inl ⟨us, by rw [upd_ne nb]; exact q1, q2⟩⟩
        · exact ⟨q0, .inr ⟨us, by rw [upd_ne nb]; exact q1, q2⟩⟩
theorem RelC.putL {w : Wd} {cs : List Cell} {H : Hp} (R : RelC G w cs H) {j : Nat} {a : Addr} {ds : List D} {us : List V} (ea : w.as[j]? = some a) (hs : w.Hs a = none) (r : RepL G w.Hs us ds) : RelC G w (cs.set j (.lst ds)) (upd H a (.lst us)) :=
  R.put ea hs ⟨hs, us, upd_same, r⟩
/-- o[i] = v, a list -/
def setI (o i v : Val) (cs : List Cell) : Option (List Cell) := match o, intOf i, v with
  | .rf j, some k, .d x => match cs[j]? with
    | some (.lst ds) => (ixN ds.length k).map fun m => cs.set j (.lst (ds.set m x))
    | _ => none
  | _, _, _ => none
def setiS (fo fi fv : S → Res Val) : S → SRes := fun st => bindS (fv st) fun v s => bindS (fo s) fun o s => bindS (fi s) fun i s => bindS (optR (setI o i v s.c) s) fun c s => .nx ⟨s.r, c⟩
theorem sf_seti {o i e : Expr} {fo fi fv : S → Res Val} {pos p2 : Pos} (hv : EF X G W e fv) (ho : EF X G W o fo) (hi : EF X G W i fi)
    (ha : ∀ v, assign (.Subscript o i p2) X.env v = (do
      let ov ← holding [v] (eval o X.env)
      let iv ← holding [v, ov] (eval i X.env)
      standAt p2
      holding [v, ov, iv] (setItem ov iv v)
      release [v, ov, iv] []) := by intro _; rfl)
    (hs : swapsWithSole [.Subscript o i p2] e pos.line X.env = pure false := by rfl) (hw : swappedStores [.Subscript o i p2] e X.env = pure none := by rfl)
    (h1 : (assignEach [.Subscript o i p2] X.env).map (·.2) = [assign (.Subscript o i p2) X.env] := by rfl) : SF X G W (.Assign [.Subscript o i p2] e pos) (setiS fo fi fv) :=
  (ps_asg hv (pg_sub ho hi set_list ha) hs hw h1).imp fun D σ H ⟨w, st, R, q⟩ => by
    refine ⟨w, st, R, q.bindE fun w1 H1 s1 x l1 R1 q1 v rv => ?_⟩
    refine ⟨w1, s1, R1, q1.bindE fun w2 H2 s2 o l2 R2 q2 ov ro => ?_⟩
    refine ⟨w2, s2, R2, q2.bindE fun w3 H3 s3 i l3 R3 q3 iv ri => ?_⟩
    cases o with
    | d o => cases i with
      | rf m => exact q3.elim
      | d i => cases x <;> exact q3.elim
    | rf j =>
      cases x with
      | rf m => cases hi : intOf i with
        | none => unfold setI at q3; rw [hi] at q3; exact q3.elim
        | some k => unfold setI at q3; rw [hi] at q3; exact q3.elim
      | d x =>
        cases hi : intOf i with
        | none => unfold setI at q3; rw [hi] at q3; exact q3.elim
        | some k =>
          unfold setI at q3
          simp only [hi] at q3
          cases ec : s3.c[j]? with
          | none => simp only [ec] at q3; exact q3.elim
          | some c =>
            cases c with
            | lst ds =>
              simp only [ec] at q3
              cases en : ixN ds.length k with
              | none => simp only [en] at q3; exact q3.elim
              | some m =>
                simp only [en] at q3
                obtain ⟨a, ea, eas, q0, us, qa, qr⟩ := R3.c.cell (ro.mono l3) ec
                refine ⟨a, us, k, m, ea, int_of ri hi, qa, by rw [qr.length]; exact en, ?_⟩
                have rv3 : Rep G w3.Hs v x := rv.mono (l2.trans l3)
                exact q3 w3 σ _ (.refl _) ⟨R3.v, R3.c.putL eas q0 (qr.set rv3 m)⟩
            | _ => simp only [ec] at q3; exact q3.elim
/-! ### methods of built-in types -/
abbrev OM := Val → List Val → List Cell → Option (Val × List Cell)
def Give2 (G : Gx) (w : Wd) (o : Option (Val × List Cell)) (Q : VK) : Prop := match o with
  | some (d, cs) => ∀ Hs' H' v, Exd w.Hs Hs' → RelC G ⟨w.as, Hs'⟩ cs H' → RepV G ⟨w.as, Hs'⟩ v d → Q v H'
  | none => False
theorem Give2.here {w : Wd} {cs : List Cell} {H : Hp} {d : Val} {Q : VK} {v : V} (R : RelC G w cs H) (q : Give2 G w (some (d, cs)) Q) (r : RepV G w v d) : Q v H := q w.Hs H v (Exd.refl _) R r
theorem Give2.tup {w : Wd} {cs : List Cell} {H : Hp} {ds : List D} {Q : VK} {vs : List V} {p : Addr} (R : RelC G w cs H) (q : Give2 G w (some (.d (.tup ds), cs)) Q) (r : RepL G w.Hs vs ds) (hp : H p = none) : Q (.ref p) (upd H p (.tup vs)) :=
  q (upd w.Hs p (.tup vs)) _ (.ref p) (Exd.new (R.fresh hp)) (R.grow hp (R.fresh hp)) (Rep.tup (.inl (.inl upd_same)) (r.mono (Exd.new (R.fresh hp))))
theorem Give2.lst {w : Wd} {cs : List Cell} {H : Hp} {ds : List D} {Q : VK} {vs : List V} {p : Addr} (R : RelC G w cs H) (q : Give2 G w (some (.d (.lst ds), cs)) Q) (r : RepL G w.Hs vs ds) (hp : H p = none) : Q (.ref p) (upd H p (.lst vs)) :=
  q (upd w.Hs p (.lst vs)) _ (.ref p) (Exd.new (R.fresh hp)) (R.grow hp (R.fresh hp)) (Rep.lst upd_same (r.mono (Exd.new (R.fresh hp))))
def rM (G : Gx) (o : OM) : V → List V → Hp → VK → Prop := fun x xs H Q => ∃ w cs dx ds, RelC G w cs H ∧ RepV G w x dx ∧ RepVs G w xs ds ∧ Give2 G w (o dx ds cs) Q
def optC (o : Option (Val × List Cell)) (r : List (Option Val)) : Res Val := match o with
  | some (v, c) => .ok v ⟨r, c⟩
  | none => .bad
theorem give2_of {w : Wd} {st : S} {σ : L2.St} {o : Option (Val × List Cell)} {Q : VK} {H : Hp} (R : Rel G w st σ H) (q : PostE G W σ w (optC o st.r) fun w' H' _ d => ∀ v, RepV G w' v d → Q v H') : Give2 G w o Q := by
  cases o with
  | none => exact q.elim
  | some p => exact fun Hs' H' v l Rc rv => q ⟨w.as, Hs'⟩ H' ⟨⟨[], by simp⟩, l⟩ ⟨R.v.mono ⟨⟨[], by simp⟩, l⟩, Rc⟩ v rv
/-- whether the receiver is a list, a text, a dict -/
def isL (x : Val) (cs : List Cell) : Bool := match x with
  | .d (.lst _) => true
  | .rf j => match cs[j]? with
    | some (.lst _) => true
    | some (.nst _) => true
    | _ => false
  | _ => false
def isS (x : Val) (_ : List Cell) : Bool := match x with
  | .d (.str _) => true
  | _ => false
def isDi (x : Val) (cs : List Cell) : Bool := match x with
  | .rf j => match cs[j]? with
    | some (.dic _) => true
    | _ => false
  | _ => false
def TyF (G : Gx) (T : String) (t : Val → List Cell → Bool) : Prop := ∀ (w : Wd) (cs : List Cell) (H : Hp) (v : V) (x : Val), RelC G w cs H → RepV G w v x → t x cs = true → tyV G.K T v H
theorem tyF_L : TyF G "list" isL := fun w cs H v x R r h => by
  cases x with
  | d x =>
    cases x with
    | lst ds => cases r with | lst hs hr => exact .inl ⟨rfl, _, .inl (.inl (R.ex _ _ hs))⟩
    | _ => cases h
  | rf j =>
    unfold isL at h
    cases e : cs[j]? with
    | none => simp only [e] at h; cases h
    | some c =>
      simp only [e] at h
      obtain ⟨a, rfl, _, q⟩ := R.cell r e
      cases c with
      | lst ds => obtain ⟨_, us, q, _⟩ := q; exact .inl ⟨rfl, _, .inl (.inl q)⟩
      | nst js => obtain ⟨_, _, us, q, _⟩ := q; exact .inl ⟨rfl, _, .inl (.inl q)⟩
      | _ => cases h
theorem tyF_S : TyF G "str" isS := fun w cs H v x R r h => by
  cases x with
  | d x =>
    cases x with
    | str z => cases r; rfl
    | _ => cases h
  | rf j => cases h
theorem tyF_D : TyF G "dict" isDi := fun w cs H v x R r h => by
  cases x with
  | d x => cases h
  | rf j =>
    unfold isDi at h
    cases e : cs[j]? with
    | none => simp only [e] at h; cases h
    | some c =>
      simp only [e] at h
      obtain ⟨a, rfl, _, q⟩ := R.cell r e
      cases c with
      | dic kvs =>
        obtain ⟨_, ⟨us, q, _⟩ | ⟨us, q, _⟩⟩ := q
        · exact .inr (.inr (.inl ⟨rfl, .inl ⟨_, q⟩⟩))
        · exact .inr (.inr (.inl ⟨rfl, .inr ⟨_, q⟩⟩))
      | _ => cases h
def bmF (t : Val → List Cell → Bool) (o : OM) (fo : S → Res Val) (g : S → Res (List Val)) : S → Res Val := fun st => bindR (fo st) fun x s => if t x s.c = true then bindR (g s) fun xs s2 => optC (o x xs s2.c) s2.r else .bad
variable {T id : String} {t : Val → List Cell → Bool} {om : OM} {name : Str} {apos cpos : Pos} {o e : Expr} {es : List Expr} {fo : S → Res Val} {g : S → Res (List Val)}
theorem ef_bm (hK : X.K = G.K) (pa : PlainAttrs T) (slot : Slot T name id) (hty : typeOf (.builtin id) = pure (.type "method_descriptor")) (tf : TyF G T t) (hm : MtR X id (rM G om)) (ho : EF X G W o fo) (ha : AF X G W (e :: es) g)
    (hbase : attributeBase o name X.env (eval o X.env) = eval o X.env := by rfl)
    (hfew : ((backTo cpos (starEach (e :: es) X.env)).all (fun x => !x.1) && (backToKw cpos (keywordEach [] X.env)).all (fun x => x.1.isSome)
      && decide ((e :: es).length + ([] : List Keyword).length + (if ([] : List Keyword).isEmpty then 0 else 1) < 30)) = true := by rfl)
    (hline : (apos.endLine == cpos.line) = true := by rfl) (hs : starEach (e :: es) X.env = (false, eval e X.env) :: starEach es X.env := by rfl) (hplain : (backTo cpos (starEach es X.env)).any (·.1) = false := by rfl) :
    EF X G W (.Call (.Attribute o name apos) (e :: es) [] cpos) (bmF t om fo g) := (pe_bm pa slot hty hm ho ha hbase hfew hline hs hplain).imp fun σ H Q ⟨w, st, R, q⟩ => by
  refine ⟨w, st, R, q.bind fun w1 H1 s1 x l1 R1 q1 v rv => ?_⟩
  by_cases z : t x s1.c = true
  · rw [if_pos z] at q1
    exact ⟨by rw [hK]; exact tf _ _ _ _ _ R1.c rv z, w1, s1, R1, q1.bind fun w2 H2 s2 xs l2 R2 q2 vs rvs => ⟨w2, s2.c, x, xs, R2.c, rv.mono l2, rvs, give2_of R2 q2⟩⟩
  · rw [if_neg z] at q1; exact q1.elim
theorem ef_bm0 (hK : X.K = G.K) (pa : PlainAttrs T) (slot : Slot T name id) (hty : typeOf (.builtin id) = pure (.type "method_descriptor")) (tf : TyF G T t) (hm : MtR X id (rM G om)) (ho : EF X G W o fo)
    (hbase : attributeBase o name X.env (eval o X.env) = eval o X.env := by rfl) (hline : (apos.endLine == cpos.line) = true := by rfl) : EF X G W (.Call (.Attribute o name apos) [] [] cpos) (bmF t om fo aNil) := (pe_bm0 pa slot hty hm ho hbase hline).imp fun σ H Q ⟨w, st, R, q⟩ => by
  refine ⟨w, st, R, q.bind fun w1 H1 s1 x l1 R1 q1 v rv => ?_⟩
  by_cases z : t x s1.c = true
  · rw [if_pos z] at q1
    exact ⟨by rw [hK]; exact tf _ _ _ _ _ R1.c rv z, w1, s1.c, x, [], R1.c, rv, .nil, give2_of R1 q1⟩
  · rw [if_neg z] at q1; exact q1.elim
def appO : OM := fun o xs cs => match o, xs with
  | .rf j, [.d x] => match cs[j]? with
    | some (.lst ds) => if sz (ds.length + 1) = true then some (.d .non, cs.set j (.lst (ds ++ [x]))) else none
    | _ => none
  | _, _ => none
theorem om_app : MtR X "list.append" (rM G appO) := by
  intro pins s σ H x xs v us Q I rx rxs ⟨w, cs, dx, ds, R, r1, r2, q⟩
  cases dx with
  | d d => exact q.elim
  | rf j =>
    cases ds with
    | nil => exact q.elim
    | cons y t =>
      cases y with
      | rf m => exact q.elim
      | d y =>
        cases t with
        | cons _ _ => exact q.elim
        | nil =>
          obtain ⟨vy, rfl, ry⟩ := repVs_one r2
          unfold appO at q
          cases ec : cs[j]? with
          | none => simp only [ec] at q; exact q.elim
          | some c =>
            cases c with
            | lst ds =>
              simp only [ec] at q
              by_cases hz : sz (ds.length + 1) = true
              · simp only [hz, if_true] at q
                obtain ⟨a, rfl, eas, q0, us', qa, qr⟩ := R.cell r1 ec
                have hl := sz_le hz
                exact mt_append pins s σ H (.ref a) [vy] v us Q I rx rxs ⟨a, us', vy, rfl, rfl, qa, by rw [qr.length]; omega, Give2.here (R.putL eas q0 (qr.append (.cons ry .nil))) q .non⟩
              · simp only [hz] at q; exact q.elim
            | _ => simp only [ec] at q; exact q.elim
end
end FL

set_option Elab.async false
set_option linter.all false
set_option maxRecDepth 100000
set_option maxHeartbeats 4000000
namespace FL
open PySem PySem.Spec PyProof.Rows L2

/-- an iterator that hands out ds -/
structure Src (G : Gx) (w : Wd) (J : It) (ds : List D) : Prop where
  go : ∀ w' cs H i, w.le w' → RelC G w' cs H → i < ds.length → J.go i H
  stop : ∀ w' cs H i, w.le w' → RelC G w' cs H → ds.length ≤ i → J.stop i H
  yld : ∀ w' cs H i x H', i < ds.length → w.le w' → RelC G w' cs H → J.yld i H x H' → ∃ d Hs', ds[i]? = some d ∧ Exd w'.Hs Hs' ∧ RelC G ⟨w'.as, Hs'⟩ cs H' ∧ Rep G Hs' x d
def tIP (G : Gx) (W : WX) (f : S → Res (List D)) : TI := fun σ H R => ∃ w st, Rel G w st σ H ∧ PostE G W σ w (f st) fun w' H' _ ds => ∀ J, Src G w' J ds → R J H'
abbrev IF (X : Cx) (G : Gx) (W : WX) (tg iter : Expr) (f : S → Res (List D)) : Prop := PI X tg iter (tIP G W f)
theorem _root_.L2.PI.imp {X : Cx} {tg e : Expr} {t t' : TI} (h : PI X tg e t) (k : ∀ σ H R, t' σ H R → t σ H R) : PI X tg e t' := ⟨fun pins s σ H R I q => h.run pins s σ H R I (k σ H R q)⟩
section
variable {X : Cx} {G : Gx} {W : WX}
theorem _root_.List.getElem?_lt_some {α : Type} {l : List α} {i : Nat} (h : i < l.length) : ∃ x, l[i]? = some x := ⟨l[i], List.getElem?_eq_getElem h⟩
theorem src_l {w : Wd} {a : Addr} {vs : List V} {ds : List D} (h : SqL G.K w.Hs a vs) (r : RepL G w.Hs vs ds) : Src G w (Itl G.K a) ds where
  go := fun w' cs H i l R hi => by
    rw [← r.length] at hi
    obtain ⟨x, hx⟩ := List.getElem?_lt_some hi
    exact ⟨vs, x, R.ex.l (l.hs.l h), hx⟩
  stop := fun w' cs H i l R hi => ⟨vs, R.ex.l (l.hs.l h), by rw [r.length]; exact hi⟩
  yld := fun w' cs H i x H' _ l R ⟨e, y⟩ => by
    subst e
    have hx := y vs (R.ex.l (l.hs.l h))
    obtain ⟨d, hd, rd⟩ := r.get' hx
    exact ⟨d, w'.Hs, hd, Exd.refl _, R, rd.mono l.hs⟩
theorem src_t {w : Wd} {a : Addr} {vs : List V} {ds : List D} (h : SqT G.K w.Hs a vs) (r : RepL G w.Hs vs ds) : Src G w (Itt G.K a) ds where
  go := fun w' cs H i l R hi => by
    rw [← r.length] at hi
    obtain ⟨x, hx⟩ := List.getElem?_lt_some hi
    exact ⟨vs, x, R.ex.t (l.hs.t h), hx⟩
  stop := fun w' cs H i l R hi => ⟨vs, R.ex.t (l.hs.t h), by rw [r.length]; exact hi⟩
  yld := fun w' cs H i x H' _ l R ⟨e, y⟩ => by
    subst e
    have hx := y vs (R.ex.t (l.hs.t h))
    obtain ⟨d, hd, rd⟩ := r.get' hx
    exact ⟨d, w'.Hs, hd, Exd.refl _, R, rd.mono l.hs⟩
/-- a, a + 1, .., n of them -/
def rangeD (a : Int) (n : Nat) : List D := (List.range n).map fun i => .int (a + (i : Nat))
theorem rangeD_length (a : Int) (n : Nat) : (rangeD a n).length = n := by simp [rangeD]
theorem src_r {w : Wd} {a : Int} {n : Nat} : Src G w (Itr a n) (rangeD a n) where
  go := fun w' cs H i l R hi => by rw [rangeD_length] at hi; exact hi
  stop := fun w' cs H i l R hi => by rw [rangeD_length] at hi; exact hi
  yld := fun w' cs H i x H' hi l R y => by
    obtain ⟨e, y⟩ := y
    subst e y
    rw [rangeD_length] at hi
    exact ⟨.int (a + (i : Nat)), w'.Hs, by simp [rangeD, hi], Exd.refl _, R, .int _⟩
/-- a list or a tuple, walked -/
def iSeq (K : PySem.W.Frag) (tl : TE) : TI := fun σ H R => tl σ H fun x H1 => ∃ a, x = .ref a ∧ ((∃ xs, SqL K H1 a xs) ∧ R (Itl K a) H1 ∨ (∃ xs, SqT K H1 a xs) ∧ R (Itt K a) H1)
theorem pi_seq {tg l : Expr} {tl : TE} (hl : PE X l tl) : PI X tg l (iSeq X.K tl) := by
  refine ⟨fun pins s σ H R I h => ?_⟩
  refine thn (hl.run pins s σ H _ I h) fun v s1 ⟨x, H1, I1, r1, q1⟩ => ?_
  obtain ⟨a, rfl, ⟨⟨xs, hq⟩, q⟩ | ⟨⟨xs, hq⟩, q⟩⟩ := q1
  · cases r1
    obtain ⟨its, rv, p, hz⟩ := I1.list hq
    refine wpAny_pyIter_list p.isList ?_
    refine ⟨s1.heap.objs.size, [s1.heap.objs.size], _, _, H1, rfl, I1.kept (t' := s1.toks) fun b o e => Heap.get?_push_of_some _ e, turn_list a _, ⟨_, Heap.get?_push_size _ rfl, rfl, rfl⟩, fun b hb => ?_, q⟩
    obtain rfl : b = s1.heap.objs.size := by simpa using hb
    exact I1.fpOk (Nat.le_refl _) (I1.hok.fresh (Nat.le_refl _))
  · cases r1
    obtain ⟨its, rv, p, hz⟩ := I1.tuple hq
    refine wpAny_pyIter_tuple (show s1.heap.IsTuple a its.toArray from p) ?_
    refine ⟨s1.heap.objs.size, [s1.heap.objs.size], _, _, H1, rfl, I1.kept (t' := s1.toks) fun b o e => Heap.get?_push_of_some _ e, turn_tuple a _, ⟨_, Heap.get?_push_size _ rfl, rfl, rfl⟩, fun b hb => ?_, q⟩
    obtain rfl : b = s1.heap.objs.size := by simpa using hb
    exact I1.fpOk (Nat.le_refl _) (I1.hok.fresh (Nat.le_refl _))
/-- what is never changed: a list, a tuple -/
def frzL : Val → Option (List D)
  | .d (.lst ds) => some ds
  | .d (.tup ds) => some ds
  | .d (.scr ds) => some ds
  | _ => none
def itF (f : S → Res Val) : S → Res (List D) := fun st => bindR (f st) fun v s => optR (frzL v) s
theorem if_seq {tg e : Expr} {f : S → Res Val} (hK : X.K = G.K) (h : EF X G W e f) : IF X G W tg e (itF f) := (pi_seq h).imp fun σ H R ⟨w, st, Rl, q⟩ => by
  refine ⟨w, st, Rl, q.bind fun w1 H1 s1 x l1 R1 q1 v rv => ?_⟩
  cases x with
  | rf j => exact q1.elim
  | d x =>
    cases x with
    | lst ds =>
      cases rv with
      | lst hs hr => exact ⟨_, rfl, .inl ⟨⟨_, .inl (.inl (R1.c.ex _ _ hs))⟩, by rw [hK]; exact q1 w1 H1 (.refl _) R1 _ (src_l (.inl (.inl hs)) hr)⟩⟩
    | scr ds =>
      cases rv with
      | scr hs hr => exact ⟨_, rfl, .inl ⟨⟨_, by rw [hK]; exact R1.c.ex.l hs⟩, by rw [hK]; exact q1 w1 H1 (.refl _) R1 _ (src_l hs hr)⟩⟩
    | tup ds =>
      cases rv with
      | tup hs hr => exact ⟨_, rfl, .inr ⟨⟨_, by rw [hK]; exact R1.c.ex.t hs⟩, by rw [hK]; exact q1 w1 H1 (.refl _) R1 _ (src_t hs hr)⟩⟩
    | _ => exact q1.elim
/-- range(n), range(a, n) -/
def okR (n : Int) : Bool := decide (-1000000000 ≤ n ∧ n ≤ 1000000000)
theorem okR_lo {n : Int} (h : okR n = true) : -(2 ^ 62) ≤ n ∧ n < 2 ^ 62 := by
  obtain ⟨a, b⟩ := of_decide_eq_true h
  exact ⟨by omega, by omega⟩
def rngO (xs : List Val) : Option (List D) := match xs with
  | [.d (.int n)] => if okR n = true then some (rangeD 0 n.toNat) else none
  | [.d (.int a), .d (.int n)] => if (okR a && okR n) = true then some (rangeD a (n - a).toNat) else none
  | _ => none
def rngF (g : S → Res (List Val)) : S → Res (List D) := fun st => bindR (g st) fun xs s => optR (rngO xs) s
theorem if_rng1 {tg a : Expr} {g : S → Res (List Val)} {p pos : Pos} (hg : Gl X "range") (hm : X.mg "range" = none) (ha : AF X G W [a] g) (hl : ∀ st xs s, g st = .ok xs s → ∃ x, xs = [x]) (hs : starEach [a] X.env = [(false, eval a X.env)] := by rfl) : IF X G W tg (.Call (.Name "range" p) [a] [] pos) (rngF g) := (pi_range1 hg hm ha hs).imp fun σ H R ⟨w, st, Rl, q⟩ => by
  refine ⟨w, st, Rl, ?_⟩
  cases eg : g st with
  | bad => unfold rngF at q; rw [eg] at q; exact q.elim
  | exc x s => unfold rngF at q; rw [eg] at q; exact q
  | ok xs s =>
    obtain ⟨x, rfl⟩ := hl st xs s eg
    unfold rngF at q
    rw [eg] at q
    intro w1 H1 l1 R1 vs rvs
    obtain ⟨v, rfl, rv⟩ := repVs_one rvs
    have q1 : PostE G W σ w (optR (rngO [x]) s) fun w' H' _ ds => ∀ J, Src G w' J ds → R J H' := q
    cases x with
    | rf m => exact q1.elim
    | d x =>
      cases x with
      | int n =>
        cases rv
        unfold rngO at q1
        by_cases z : okR n = true
        · simp only [z, if_true] at q1
          obtain ⟨z1, z2⟩ := okR_lo z
          exact ⟨n, rfl, z1, z2, q1 w1 H1 l1 R1 _ src_r⟩
        · simp only [z] at q1; exact q1.elim
      | _ => exact q1.elim
theorem if_rng2 {tg a b : Expr} {g : S → Res (List Val)} {p pos : Pos} (hg : Gl X "range") (hm : X.mg "range" = none) (ha : AF X G W [a, b] g) (hl : ∀ st xs s, g st = .ok xs s → ∃ x y, xs = [x, y]) (hs : starEach [a, b] X.env = [(false, eval a X.env), (false, eval b X.env)] := by rfl) (hs2 : starEach [b] X.env = [(false, eval b X.env)] := by rfl) :
    IF X G W tg (.Call (.Name "range" p) [a, b] [] pos) (rngF g) := (pi_range2 hg hm ha hs hs2).imp fun σ H R ⟨w, st, Rl, q⟩ => by
  refine ⟨w, st, Rl, ?_⟩
  cases eg : g st with
  | bad => unfold rngF at q; rw [eg] at q; exact q.elim
  | exc x s => unfold rngF at q; rw [eg] at q; exact q
  | ok xs s =>
    obtain ⟨x, y, rfl⟩ := hl st xs s eg
    unfold rngF at q
    rw [eg] at q
    intro w1 H1 l1 R1 vs rvs
    obtain ⟨v, u, rfl, rv, ru⟩ := repVs_two rvs
    have q1 : PostE G W σ w (optR (rngO [x, y]) s) fun w' H' _ ds => ∀ J, Src G w' J ds → R J H' := q
    cases x with
    | rf m => exact q1.elim
    | d x =>
      cases x with
      | int i =>
        cases y with
        | rf m => exact q1.elim
        | d y =>
          cases y with
          | int n =>
            cases rv
            cases ru
            unfold rngO at q1
            by_cases z : (okR i && okR n) = true
            · simp only [z, if_true] at q1
              have z' := z
              rw [Bool.and_eq_true] at z'
              obtain ⟨z1, z2⟩ := okR_lo z'.1
              obtain ⟨z3, z4⟩ := okR_lo z'.2
              exact ⟨i, n, rfl, ⟨z1, z2, z3, z4⟩, q1 w1 H1 l1 R1 _ src_r⟩
            · simp only [z] at q1; exact q1.elim
          | _ => exact q1.elim
      | _ => cases y with
        | rf m => exact q1.elim
        | d y => exact q1.elim
theorem len1 {f : S → Res Val} : ∀ st xs s, aCons f aNil st = .ok xs s → ∃ x, xs = [x] := fun st xs s h => by
  unfold aCons at h
  cases e : f st with
  | ok a s1 => rw [e] at h; cases h; exact ⟨a, rfl⟩
  | exc x s1 => rw [e] at h; cases h
  | bad => rw [e] at h; cases h
theorem len2 {f g : S → Res Val} : ∀ st xs s, aCons f (aCons g aNil) st = .ok xs s → ∃ x y, xs = [x, y] := fun st xs s h => by
  unfold aCons at h
  cases e : f st with
  | ok a s1 =>
    rw [e] at h
    simp only [bindR] at h
    cases e2 : g s1 with
    | ok b s2 => rw [e2] at h; cases h; exact ⟨a, b, rfl⟩
    | exc x s2 => rw [e2] at h; cases h
    | bad => rw [e2] at h; cases h
  | exc x s1 => rw [e] at h; cases h
  | bad => rw [e] at h; cases h

/-! ### targets -/
/-- the slots but those at vs are as they were -/
structure But (vs : List Nat) (σ σ' : L2.St) : Prop where
  len : σ'.length = σ.length
  at_ : ∀ i, i ∉ vs → σ'[i]? = σ[i]?
def tIG (G : Gx) (vs : List Nat) (g : D → S → Option S) : TG := fun v σ H Q => ∃ w st d, Rel G w st σ H ∧ Rep G w.Hs v d ∧ match g d st with
  | some s => ∀ σ', Rel G w s σ' H → But vs σ σ' → Q σ' H
  | none => False
abbrev GF (X : Cx) (G : Gx) (tg : Expr) (vs : List Nat) (g : D → S → Option S) : Prop := PG X tg (tIG G vs g)
theorem _root_.L2.PG.imp {tg : Expr} {t t' : TG} (h : PG X tg t) (k : ∀ v σ H Q, t' v σ H Q → t v σ H Q) : PG X tg t' := ⟨fun pins s σ H v u Q I r q => h.run pins s σ H v u Q I r (k v σ H Q q)⟩
def nmG (i : Nat) : D → S → Option S := fun d st => some ⟨st.r.set i (some (.d d)), st.c⟩
theorem gf_name (i : Nat) {x : Str} {pos : Pos} (hN : X.N.Nodup) (hi : X.N[i]? = some x) (hx : Loc X.env.scope x) (hf : X.fn x = true ∨ X.env.scope.names.lookup x = some .local := by first | exact .inl rfl | exact .inr rfl | assumption) (hr : G.fr i := by exact True.intro) : GF X G (.Name x pos) [i] (nmG i) :=
  (pg_name hN hi hx hf).imp fun v σ H Q ⟨w, st, d, R, r, q⟩ => q _ ⟨R.v.set (d := .d d) r hr, R.c⟩ ⟨by simp, fun m hm => by rw [List.getElem?_set_ne]; intro e; exact hm (by simp [e])⟩
def tgsG : List (D → S → Option S) → List D → S → Option S
  | [], [], st => some st
  | g :: gs, d :: ds, st => (g d st).bind (tgsG gs ds)
  | _, _, _ => none
def tIGs (G : Gx) (vs : List Nat) (gs : List (D → S → Option S)) : TGs := fun us σ H Q => ∃ w st ds, Rel G w st σ H ∧ RepL G w.Hs us ds ∧ match tgsG gs ds st with
  | some s => ∀ σ', Rel G w s σ' H → But vs σ σ' → Q σ' H
  | none => False
abbrev GFs (X : Cx) (G : Gx) (ts : List Expr) (vs : List Nat) (gs : List (D → S → Option S)) : Prop := PGs X ts (tIGs G vs gs)
theorem _root_.L2.PGs.imp {ts : List Expr} {t t' : TGs} (h : PGs X ts t) (k : ∀ v σ H Q, t' v σ H Q → t v σ H Q) : PGs X ts t' := ⟨fun pins s σ H v u Q I r q => h.run pins s σ H v u Q I r (k v σ H Q q)⟩
theorem gfs_nil : GFs X G [] [] [] := pgs_nil.imp fun vs σ H Q ⟨w, st, ds, R, r, q⟩ => by
  cases r with
  | nil => exact ⟨rfl, q σ R ⟨rfl, fun _ _ => rfl⟩⟩
  | cons a b => exact q.elim
theorem gfs_cons {e : Expr} {es : List Expr} {vs us : List Nat} {g : D → S → Option S} {gs : List (D → S → Option S)} (h : GF X G e vs g) (k : GFs X G es us gs) (hs : (assignEach (e :: es) X.env).map (·.2) = assign e X.env :: (assignEach es X.env).map (·.2) := by rfl) : GFs X G (e :: es) (vs ++ us) (g :: gs) :=
  (pgs_cons h k hs).imp fun zs σ H Q ⟨w, st, ds, R, r, q⟩ => by
    cases r with
    | nil => exact q.elim
    | @cons v zs d ds a b =>
      refine ⟨v, zs, rfl, w, st, d, R, a, ?_⟩
      have q' : match (g d st).bind (tgsG gs ds) with | some s => ∀ σ', Rel G w s σ' H → But (vs ++ us) σ σ' → Q σ' H | none => False := q
      cases e : g d st with
      | none => rw [e] at q'; exact q'.elim
      | some s1 =>
        rw [e] at q'
        refine fun σ1 R1 b1 => ⟨w, s1, ds, R1, b, ?_⟩
        have q2 : match tgsG gs ds s1 with | some s => ∀ σ', Rel G w s σ' H → But (vs ++ us) σ σ' → Q σ' H | none => False := q'
        cases e2 : tgsG gs ds s1 with
        | none => rw [e2] at q2; exact q2.elim
        | some s2 =>
          rw [e2] at q2
          exact fun σ2 R2 b2 => q2 σ2 R2 ⟨b2.len.trans b1.len, fun i hi => (b2.at_ i fun z => hi (List.mem_append_right _ z)).trans (b1.at_ i fun z => hi (List.mem_append_left _ z))⟩
def tupG (gs : List (D → S → Option S)) : D → S → Option S := fun d st => match d with
  | .tup ds => tgsG gs ds st
  | _ => none
theorem tgsG_len {gs : List (D → S → Option S)} : ∀ {ds : List D} {st s : S}, tgsG gs ds st = some s → ds.length = gs.length := by
  induction gs with
  | nil => intro ds st s h; cases ds with
    | nil => rfl
    | cons => cases h
  | cons g gs ih => intro ds st s h; cases ds with
    | nil => cases h
    | cons d ds =>
      have h' : (g d st).bind (tgsG gs ds) = some s := h
      cases e : g d st with
      | none => rw [e] at h'; cases h'
      | some s1 => rw [e] at h'; simp [ih (show tgsG gs ds s1 = some s from h')]
theorem gf_tup {es : List Expr} {k : Nat} {pos : Pos} {vs : List Nat} {gs : List (D → S → Option S)} (hK : X.K = G.K) (hc : X.calm = true) (h : GFs X G es vs gs)
    (hn : (assignEach es X.env).length = gs.length := by rfl) (hst : (assignEach es X.env).findIdx? (·.1) = none := by rfl) : GF X G (.Tuple es k pos) vs (tupG gs) :=
  (pg_tup hc h hn hst).imp fun v σ H Q ⟨w, st, d, R, r, q⟩ => by
    cases d with
    | tup ds =>
      cases r with
      | tup hs hr =>
        have q' : match tgsG gs ds st with | some s => ∀ σ', Rel G w s σ' H → But vs σ σ' → Q σ' H | none => False := q
        refine ⟨_, _, rfl, by rw [hK]; exact R.c.ex.t hs, ?_, w, st, ds, R, hr, q'⟩
        cases e : tgsG gs ds st with
        | none => rw [e] at q'; exact q'.elim
        | some s => rw [hr.length, tgsG_len e]
    | _ => exact q.elim

/-! ### for -/
def forF (g : D → S → Option S) (b : S → SRes) : List D → S → SRes
  | [], st => .nx st
  | d :: r, st => match g d st with
    | none => .bad
    | some s1 => match b s1 with
      | .nx s2 => forF g b r s2
      | .ct s2 => forF g b r s2
      | .brk s2 => .nx s2
      | z => z
def forS (it : S → Res (List D)) (g : D → S → Option S) (b : S → SRes) : S → SRes := fun st => bindS (it st) fun ds s => forF g b ds s
theorem sf_for {vs : List Nat} {tg iter : Expr} {body : List Stmt} {it : S → Res (List D)} {g : D → S → Option S} {b : S → SRes} {pos : Pos} (hp : PassesOwn (model X.prog X.w) X.A X.env X.xe) (hc : X.calm = true) (hi : IF X G W tg iter it) (hg : GF X G tg vs g) (hb : SFs X G W body b)
    (hs : ∀ x, foldedSetIterable iter X.env x = pure x := by intro _; rfl) : SF X G W (.For tg iter body [] pos) (forS it g b) := (ps_for hp hc hi hg hb hs).imp fun Ed σ H ⟨w, st, R, q⟩ => by
  refine ⟨w, st, R, q.bindE fun w1 H1 s1 ds l1 R1 q1 J src => ?_⟩
  refine ⟨fun i m σ' H' => m = ds.length - i ∧ i ≤ ds.length ∧ ∃ w' s', w1.le w' ∧ Rel G w' s' σ' H' ∧ PostS G W Ed w' (forF g b (ds.drop i) s'), ⟨_, rfl, Nat.zero_le _, w1, s1, .refl _, R1, q1⟩, ?_⟩
  rintro i m σ' H' ⟨rfl, hi, w', s', l', R', q'⟩
  by_cases hlt : i < ds.length
  · refine .inr ⟨src.go w' _ H' i l' R'.c hlt, fun σ2 H2 => (i + 1) ≤ ds.length ∧ ∃ w2 s2, w1.le w2 ∧ Rel G w2 s2 σ2 H2 ∧ PostS G W Ed w2 (forF g b (ds.drop (i + 1)) s2), fun σ2 H2 ⟨h2, z⟩ => ⟨ds.length - (i + 1), by omega, rfl, h2, z⟩, fun x H2 y => ?_⟩
    obtain ⟨d, Hs', hd, lx, Rc, rx⟩ := src.yld w' _ H' i x H2 hlt l' R'.c y
    have lw : w'.le ⟨w'.as, Hs'⟩ := ⟨⟨[], by simp⟩, lx⟩
    refine ⟨⟨w'.as, Hs'⟩, s', d, ⟨R'.v.mono lw, Rc⟩, rx, ?_⟩
    have ed : ds.drop i = d :: ds.drop (i + 1) := by
      obtain ⟨h1, h2⟩ := List.getElem?_eq_some_iff.mp hd
      rw [← h2, List.drop_eq_getElem_cons h1]
    rw [ed] at q'
    have q2 : PostS G W Ed w' (match g d s' with | none => .bad | some s1 => match b s1 with | .nx s2 => forF g b (ds.drop (i + 1)) s2 | .ct s2 => forF g b (ds.drop (i + 1)) s2 | .brk s2 => .nx s2 | z => z) := q'
    cases eg : g d s' with
    | none => rw [eg] at q2; exact q2.elim
    | some s3 =>
      rw [eg] at q2
      intro σ3 R3 _
      refine ⟨⟨w'.as, Hs'⟩, s3, R3, ?_⟩
      have q3 : PostS G W Ed ⟨w'.as, Hs'⟩ (match b s3 with | .nx s2 => forF g b (ds.drop (i + 1)) s2 | .ct s2 => forF g b (ds.drop (i + 1)) s2 | .brk s2 => .nx s2 | z => z) := PostS.le q2 lw
      have ll : w1.le ⟨w'.as, Hs'⟩ := l'.trans lw
      cases eb : b s3 with
      | nx s4 => rw [eb] at q3; exact fun w4 σ4 H4 l4 R4 => ⟨hlt, w4, s4, ll.trans l4, R4, PostS.le q3 l4⟩
      | ct s4 => rw [eb] at q3; exact fun w4 σ4 H4 l4 R4 => ⟨hlt, w4, s4, ll.trans l4, R4, PostS.le q3 l4⟩
      | brk s4 => rw [eb] at q3; exact q3
      | ret v s4 => rw [eb] at q3; exact q3
      | exc x s4 => rw [eb] at q3; exact q3
      | bad => rw [eb] at q3; exact q3.elim
  · have e : i = ds.length := by omega
    subst e
    rw [List.drop_length] at q'
    exact .inl ⟨src.stop w' _ H' _ l' R'.c (Nat.le_refl _), q' w' σ' H' (.refl _) R'⟩
/-- over a list that is changed in the loop, as it stands at each turn -/
def forC (g : D → S → Option S) (b : S → SRes) (j : Nat) : Nat → Nat → S → SRes
  | fuel, i, st => match st.c[j]? with
    | some (.lst ds) => match ds[i]? with
      | none => .nx st
      | some d => match fuel with
        | 0 => .bad
        | fuel + 1 => match g d st with
          | none => .bad
          | some s1 => match b s1 with
            | .nx s2 => forC g b j fuel (i + 1) s2
            | .ct s2 => forC g b j fuel (i + 1) s2
            | .brk s2 => .nx s2
            | z => z
    | _ => .bad
def rfOf : Val → Option Nat
  | .rf j => some j
  | _ => none
def forCS (N : Nat) (it : S → Res Val) (g : D → S → Option S) (b : S → SRes) : S → SRes := fun st => bindS (it st) fun v s => match rfOf v with
  | some j => forC g b j N 0 s
  | none => .bad
theorem sf_forC (N : Nat) {vs : List Nat} {tg iter : Expr} {body : List Stmt} {it : S → Res Val} {g : D → S → Option S} {b : S → SRes} {pos : Pos} (hK : X.K = G.K) (hp : PassesOwn (model X.prog X.w) X.A X.env X.xe) (hc : X.calm = true) (hi : EF X G W iter it) (hg : GF X G tg vs g) (hb : SFs X G W body b)
    (hs : ∀ x, foldedSetIterable iter X.env x = pure x := by intro _; rfl) : SF X G W (.For tg iter body [] pos) (forCS N it g b) := (ps_for hp hc (pi_list hi) hg hb hs).imp fun Ed σ H ⟨w, st, R, q⟩ => by
  refine ⟨w, st, R, q.bindE fun w1 H1 s1 x l1 R1 q1 v rv => ?_⟩
  cases x with
  | d x => exact q1.elim
  | rf j =>
    have q1 : PostS G W Ed w1 (forC g b j N 0 s1) := q1
    obtain ⟨a, ea, rfl⟩ := rv
    have cell : ∀ {w' : Wd} {cs : List Cell} {H' : Hp} {ds : List D}, w1.le w' → RelC G w' cs H' → cs[j]? = some (.lst ds) → ∃ us, SqL X.K H' a us ∧ RepL G w'.Hs us ds := fun {w' cs H' ds} l R e => by
      obtain ⟨_, us, q1, q2⟩ := R.ok j a _ (l.at ea) e
      exact ⟨us, .inl (.inl q1), q2⟩
    have first : ∃ xs, SqL X.K H1 a xs := by
      cases ec : s1.c[j]? with
      | none => unfold forC at q1; simp only [ec] at q1; exact q1.elim
      | some c =>
        cases c with
        | lst ds => obtain ⟨us, h, _⟩ := cell (.refl _) R1.c ec; exact ⟨us, h⟩
        | _ => unfold forC at q1; simp only [ec] at q1; exact q1.elim
    refine ⟨a, rfl, first, ?_⟩
    refine ⟨fun i m σ' H' => ∃ w' s', w1.le w' ∧ Rel G w' s' σ' H' ∧ PostS G W Ed w' (forC g b j m i s'), ⟨N, w1, s1, .refl _, R1, q1⟩, ?_⟩
    rintro i m σ' H' ⟨w', s', l', R', q'⟩
    unfold forC at q'
    cases ec : s'.c[j]? with
    | none => simp only [ec] at q'; exact q'.elim
    | some c =>
      cases c with
      | lst ds =>
        simp only [ec] at q'
        obtain ⟨us, hq, hr⟩ := cell l' R'.c ec
        cases ei : ds[i]? with
        | none =>
          simp only [ei] at q'
          refine .inl ⟨⟨us, hq, ?_⟩, q' w' σ' H' (.refl _) R'⟩
          rw [hr.length]; exact List.getElem?_eq_none_iff.mp ei
        | some d =>
          simp only [ei] at q'
          obtain ⟨v, hv, rv⟩ := hr.get ei
          cases m with
          | zero => exact q'.elim
          | succ m =>
            simp only at q'
            refine .inr ⟨⟨us, v, hq, hv⟩, fun σ2 H2 => ∃ w2 s2, w1.le w2 ∧ Rel G w2 s2 σ2 H2 ∧ PostS G W Ed w2 (forC g b j m (i + 1) s2), fun σ2 H2 z => ⟨m, Nat.lt_succ_self _, z⟩, fun x H2 ⟨e, y⟩ => ?_⟩
            subst e
            have ex : x = v := Option.some.inj ((y us hq).symm.trans hv)
            subst ex
            refine ⟨w', s', d, R', rv, ?_⟩
            cases eg : g d s' with
            | none => rw [eg] at q'; exact q'.elim
            | some s3 =>
              rw [eg] at q'
              intro σ3 R3 _
              refine ⟨w', s3, R3, ?_⟩
              cases eb : b s3 with
              | nx s4 => simp only [eb] at q'; exact fun w4 σ4 H4 l4 R4 => ⟨w4, s4, l'.trans l4, R4, PostS.le q' l4⟩
              | ct s4 => simp only [eb] at q'; exact fun w4 σ4 H4 l4 R4 => ⟨w4, s4, l'.trans l4, R4, PostS.le q' l4⟩
              | brk s4 => simp only [eb] at q'; exact q'
              | ret v s4 => simp only [eb] at q'; exact q'
              | exc x s4 => simp only [eb] at q'; exact q'
              | bad => simp only [eb] at q'; exact q'.elim
      | _ => simp only [ec] at q'; exact q'.elim
/-! ### while -/
def whF (t : S → Res Bool) (b : S → SRes) : Nat → S → SRes
  | 0, _ => .bad
  | m + 1, st => bindS (t st) fun c s => if c = true then (match b s with
      | .nx s2 => whF t b m s2
      | .ct s2 => whF t b m s2
      | .brk s2 => .nx s2
      | z => z) else .nx s
theorem sf_while (N : Nat) {c : Expr} {body : List Stmt} {t : S → Res Bool} {b : S → SRes} {pos : Pos} (hp : PassesOwn (model X.prog X.w) X.A X.env X.xe) (hc : TF X G W c t) (hb : SFs X G W body b) : SF X G W (.While c body [] pos) (whF t b N) := (ps_while hp hc hb).imp fun Ed σ H ⟨w, st, R, q⟩ => by
  refine ⟨fun m σ' H' => ∃ w' s', Rel G w' s' σ' H' ∧ PostS G W Ed w' (whF t b m s'), ⟨N, w, st, R, q⟩, ?_⟩
  rintro m σ' H' ⟨w', s', R', q'⟩
  cases m with
  | zero => exact q'.elim
  | succ m =>
    refine ⟨w', s', R', PostS.bindE (D := Ed) q' fun w1 H1 s1 c l1 R1 q1 => ?_⟩
    cases c with
    | false => exact q1 w1 σ' H1 (.refl _) R1
    | true =>
      refine ⟨fun σ2 H2 => ∃ w2 s2, Rel G w2 s2 σ2 H2 ∧ PostS G W Ed w2 (whF t b m s2), fun σ2 H2 z => ⟨m, Nat.lt_succ_self _, z⟩, w1, s1, R1, ?_⟩
      have q2 : PostS G W Ed w1 (match b s1 with | .nx s2 => whF t b m s2 | .ct s2 => whF t b m s2 | .brk s2 => .nx s2 | z => z) := q1
      cases eb : b s1 with
      | nx s4 => rw [eb] at q2; exact fun w4 σ4 H4 l4 R4 => ⟨w4, s4, R4, PostS.le q2 l4⟩
      | ct s4 => rw [eb] at q2; exact fun w4 σ4 H4 l4 R4 => ⟨w4, s4, R4, PostS.le q2 l4⟩
      | brk s4 => rw [eb] at q2; exact q2
      | ret v s4 => rw [eb] at q2; exact q2
      | exc x s4 => rw [eb] at q2; exact q2
      | bad => rw [eb] at q2; exact q2.elim
end
end FL

set_option Elab.async false
set_option linter.all false
set_option maxRecDepth 100000
set_option maxHeartbeats 4000000
namespace FL
open PySem PySem.Spec PyProof.Rows L2

/-- no exception comes out -/
abbrev W0 : WX := fun _ _ _ _ => False
def wipeR (r : List (Option Val)) : List Nat → List (Option Val)
  | [] => r
  | i :: vs => (wipeR r vs).set i none
theorem wipeR_length (r : List (Option Val)) : ∀ vs, (wipeR r vs).length = r.length
  | [] => rfl
  | i :: vs => by rw [wipeR, List.length_set, wipeR_length r vs]
theorem wipeR_at {r : List (Option Val)} {i : Nat} {d : Val} : ∀ {vs : List Nat}, (wipeR r vs)[i]? = some (some d) → r[i]? = some (some d) ∧ i ∉ vs
  | [], h => ⟨h, by simp⟩
  | j :: vs, h => by
    rw [wipeR] at h
    by_cases e : i = j
    · subst e
      have hl : i < (wipeR r vs).length := by
        have := (List.getElem?_eq_some_iff.mp h).1
        simpa using this
      rw [List.getElem?_set_self hl] at h; cases h
    · rw [List.getElem?_set_ne (Ne.symm e)] at h
      obtain ⟨h1, h2⟩ := wipeR_at h
      exact ⟨h1, by simp [e, h2]⟩
theorem wipe_at {σ : L2.St} {i : Nat} {x : V} : ∀ {vs : List Nat}, i ∉ vs → σ[i]? = some (some x) → (wipe σ vs)[i]? = some (some x)
  | [], _, h => h
  | j :: vs, hn, h => by
    have h1 : i ≠ j := fun e => hn (by simp [e])
    have h2 : i ∉ vs := fun e => hn (by simp [e])
    have : wipe σ (j :: vs) = (wipe σ vs).set j none := rfl
    rw [this, List.getElem?_set_ne (Ne.symm h1)]
    exact wipe_at h2 h
theorem RelV.wipe {G : Gx} {w : Wd} {r : List (Option Val)} {σ : L2.St} (hx : G.ex = none) (h : RelV G w r σ) (vs : List Nat) : RelV G w (wipeR r vs) (L2.wipe σ vs) :=
  ⟨by rw [wipeR_length, wipe_length, h.len], fun i d e => by
    obtain ⟨h1, h2⟩ := wipeR_at e
    obtain ⟨v, e2, r⟩ := h.ok i d h1
    exact ⟨v, wipe_at h2 e2, r⟩, .of_none hx⟩
theorem But.wipe {vs us : List Nat} {σ σ' : L2.St} (h : But vs σ σ') (hs : ∀ i ∈ vs, i ∈ us) : L2.wipe σ' us = L2.wipe σ us := by
  have key : ∀ (us : List Nat) (i : Nat), (L2.wipe σ' us)[i]? = if i ∈ us then (if i < σ.length then some none else none) else σ'[i]? := by
    intro us
    induction us with
    | nil => intro i; simp [L2.wipe]
    | cons j us ih =>
      intro i
      have e : L2.wipe σ' (j :: us) = (L2.wipe σ' us).set j none := rfl
      rw [e]
      by_cases hj : i = j
      · subst hj
        rw [if_pos (by simp)]
        by_cases hl : i < σ.length
        · rw [if_pos hl, List.getElem?_set_self (by rw [wipe_length, h.len]; exact hl)]
        · rw [if_neg hl, List.getElem?_eq_none_iff]; rw [List.length_set, wipe_length, h.len]; omega
      · rw [List.getElem?_set_ne (Ne.symm hj), ih]
        simp [hj]
  have key2 : ∀ (us : List Nat) (i : Nat), (L2.wipe σ us)[i]? = if i ∈ us then (if i < σ.length then some none else none) else σ[i]? := by
    intro us
    induction us with
    | nil => intro i; simp [L2.wipe]
    | cons j us ih =>
      intro i
      have e : L2.wipe σ (j :: us) = (L2.wipe σ us).set j none := rfl
      rw [e]
      by_cases hj : i = j
      · subst hj
        rw [if_pos (by simp)]
        by_cases hl : i < σ.length
        · rw [if_pos hl, List.getElem?_set_self (by rw [wipe_length]; exact hl)]
        · rw [if_neg hl, List.getElem?_eq_none_iff]; rw [List.length_set, wipe_length]; omega
      · rw [List.getElem?_set_ne (Ne.symm hj), ih]
        simp [hj]
  apply List.ext_getElem?
  intro i
  rw [key, key2]
  by_cases hi : i ∈ us
  · rw [if_pos hi, if_pos hi]
  · rw [if_neg hi, if_neg hi]
    exact h.at_ i fun z => hi (hs i z)

/-- the turns of a list comprehension: the new list is the cell at n -/
def lcL (g : D → S → Option S) (t : S → Res Bool) (f : S → Res Val) (vs : List Nat) (n : Nat) : List D → S → Option S
  | [], st => some st
  | d :: r, st => match g d st with
    | none => none
    | some s1 => match t s1 with
      | .ok true s2 => match f s2 with
        | .ok (.d y) s3 => match s3.c[n]? with
          | some (.lst acc) => if sz (acc.length + 1) = true then lcL g t f vs n r ⟨wipeR s3.r vs, s3.c.set n (.lst (acc ++ [y]))⟩ else none
          | _ => none
        | _ => none
      | .ok false s2 => lcL g t f vs n r ⟨wipeR s2.r vs, s2.c⟩
      | _ => none
def lcO (n : Nat) (r : List (Option Val)) (o : Option S) : Res (List D) := match o with
  | some s2 => match s2.c[n]? with
    | some (.lst acc) => .ok acc ⟨r, s2.c.take n⟩
    | _ => .bad
  | none => .bad
def lcF (it : S → Res (List D)) (g : D → S → Option S) (t : S → Res Bool) (f : S → Res Val) (vs : List Nat) : S → Res (List D) := fun st => bindR (it st) fun ds s =>
  lcO s.c.length s.r (lcL g t f vs s.c.length ds ⟨wipeR s.r vs, s.c ++ [.lst []]⟩)
def dl (H : Hp) (a : Addr) : Hp := fun b => if b = a then none else H b
theorem dl_upd {H : Hp} {a : Addr} {o : HO} (h : H a = some o) : upd (dl H a) a o = H := by
  funext b
  by_cases e : b = a
  · subst e; rw [upd_same, h]
  · rw [upd_ne e]; exact if_neg e
section
variable {X : Cx} {G : Gx} {W : WX}
theorem tf_yes {X : Cx} : PTs X [] (tIT G W0 fun st => .ok true st) := ⟨fun pins s σ H Q I ⟨w, st, R, q⟩ => pts_nil.run pins s σ H Q I (q w H (.refl w) R)⟩
theorem tf_one {X : Cx} {c : Expr} {t : S → Res Bool} (h : TF X G W0 c t) : PTs X [c] (tIT G W0 t) := pts_one h
/-- the list's cell, dropped -/
theorem RelC.pop {w : Wd} {cs : List Cell} {H : Hp} (R : RelC G w cs H) {n : Nat} {a : Addr} (ea : w.as[n]? = some a) (hs : w.Hs a = none) : RelC G ⟨w.as.take n, w.Hs⟩ (cs.take n) (dl H a) := by
  have R1 := R.cut n
  refine ⟨R1.len, R1.nd, fun b u e => ?_, fun i b c eb ec => ?_⟩
  · have nb : b ≠ a := fun z => by subst z; have e' : w.Hs b = some u := e; rw [hs] at e'; cases e'
    show (if b = a then none else H b) = some u
    rw [if_neg nb]; exact R1.ex b u e
  · have q := R1.ok i b c eb ec
    have eb' : (w.as.take n)[i]? = some b := eb
    have hi : i < n := by
      have := (List.getElem?_eq_some_iff.mp eb').1
      rw [List.length_take] at this; omega
    have nb : b ≠ a := fun z => by
      subst z
      rw [List.getElem?_take_of_lt hi] at eb'
      obtain ⟨h1, e1⟩ := List.getElem?_eq_some_iff.mp ea
      obtain ⟨h2, e2⟩ := List.getElem?_eq_some_iff.mp eb'
      have := (List.getElem_inj R.nd).mp (e2.trans e1.symm)
      omega
    have e0 : dl H a b = H b := if_neg nb
    cases c with
    | dead => exact q
    | lst ds => obtain ⟨q0, us, q1, q2⟩ := q; exact ⟨q0, us, e0.trans q1, q2⟩
    | nst js => obtain ⟨q0, qj, us, q1, q2⟩ := q; exact ⟨q0, qj, us, e0.trans q1, q2⟩
    | ins C fs => obtain ⟨q0, dx, us, q1, q2⟩ := q; exact ⟨q0, dx, us, e0.trans q1, q2⟩
    | dic kvs =>
      obtain ⟨q0, ⟨us, q1, q2⟩ | ⟨us, q1, q2⟩⟩ := q
      · exact ⟨q0, .inl ⟨us, e0.trans q1, q2⟩⟩
      · exact ⟨q0, .inr ⟨us, e0.trans q1, q2⟩⟩
theorem lc_of (hx : G.ex = none) {it : S → Res (List D)} {g : D → S → Option S} {t : S → Res Bool} {f : S → Res Val} {us vs : List Nat} {σ : L2.St} {H : Hp} {Q : VK} (hv : ∀ i ∈ us, i ∈ vs) (h : tIL G W (lcF it g t f vs) σ H Q) :
    tLc (tIP G W it) (tIG G us g) (tIT G W0 t) (tI G W0 f) vs σ H Q := by
  obtain ⟨w, st, R, q⟩ := h
  refine ⟨w, st, R, q.bind fun w1 H1 s1 ds l1 R1 q1 J src D hD => ?_⟩
  let n := s1.c.length
  have h0 : Rel G ⟨w1.as ++ [D], w1.Hs⟩ ⟨wipeR s1.r vs, s1.c ++ [.lst []]⟩ (L2.wipe σ vs) (upd H1 D (.lst [])) := ⟨(R1.v.mono Wd.le.snoc).wipe hx vs, R1.c.cellL hD .nil⟩
  have lD : w1.le ⟨w1.as ++ [D], w1.Hs⟩ := .snoc
  refine ⟨fun i m H' => m = ds.length - i ∧ i ≤ ds.length ∧ ∃ w' s', (⟨w1.as ++ [D], w1.Hs⟩ : Wd).le w' ∧ Rel G w' s' (L2.wipe σ vs) H' ∧ PostE G W σ w1 (lcO n s1.r (lcL g t f vs n (ds.drop i) s')) fun w' H' _ ds => ∀ p us, H' p = none → RepL G w'.Hs us ds → Q (.ref p) (upd H' p (.lst us)),
    ⟨_, rfl, Nat.zero_le _, _, _, .refl _, h0, q1⟩, ?_⟩
  rintro i m H' ⟨rfl, hi, w', s', l', R', q'⟩
  have atD : w'.as[n]? = some D := l'.at (by show (w1.as ++ [D])[s1.c.length]? = some D; rw [← R1.c.len, List.getElem?_append_right (Nat.le_refl _)]; simp)
  by_cases hlt : i < ds.length
  · refine .inr ⟨src.go w' _ H' i (lD.trans l') R'.c hlt, fun H2 => (i + 1) ≤ ds.length ∧ ∃ w2 s2, (⟨w1.as ++ [D], w1.Hs⟩ : Wd).le w2 ∧ Rel G w2 s2 (L2.wipe σ vs) H2 ∧ PostE G W σ w1 (lcO n s1.r (lcL g t f vs n (ds.drop (i + 1)) s2)) fun w' H' _ ds => ∀ p us, H' p = none → RepL G w'.Hs us ds → Q (.ref p) (upd H' p (.lst us)),
      fun H2 ⟨h2, z⟩ => ⟨ds.length - (i + 1), by omega, rfl, h2, z⟩, fun x H2 y => ?_⟩
    obtain ⟨d, Hs', hd, lx, Rc, rx⟩ := src.yld w' _ H' i x H2 hlt (lD.trans l') R'.c y
    have lw : w'.le ⟨w'.as, Hs'⟩ := ⟨⟨[], by simp⟩, lx⟩
    have ed : ds.drop i = d :: ds.drop (i + 1) := by
      obtain ⟨h1, h2⟩ := List.getElem?_eq_some_iff.mp hd
      rw [← h2, List.drop_eq_getElem_cons h1]
    rw [ed] at q'
    unfold lcL at q'
    refine ⟨⟨w'.as, Hs'⟩, s', d, ⟨R'.v.mono lw, Rc⟩, rx, ?_⟩
    cases eg : g d s' with
    | none => rw [eg] at q'; exact q'.elim
    | some s3 =>
      rw [eg] at q'
      intro σ3 R3 b3
      have hw : L2.wipe σ3 vs = L2.wipe σ vs := (b3.wipe hv).trans (by
        -- wiping twice
        have : ∀ (σ : L2.St), L2.wipe (L2.wipe σ vs) vs = L2.wipe σ vs := fun σ => by
          refine But.wipe (vs := vs) (us := vs) ⟨wipe_length σ vs, fun i hi => ?_⟩ fun _ h => h
          exact wipe_out hi
        exact this σ)
      refine ⟨hw, ⟨w'.as, Hs'⟩, s3, R3, ?_⟩
      simp only at q'
      cases et : t s3 with
      | bad => simp only [et] at q'; exact q'.elim
      | exc x s4 => simp only [et] at q'; exact q'.elim
      | ok b s4 =>
        intro w4 H4 l4 R4
        cases b with
        | false =>
          simp only [et] at q'
          show if false = true then _ else _
          rw [if_neg Bool.false_ne_true]
          exact ⟨hlt, w4, ⟨wipeR s4.r vs, s4.c⟩, (l'.trans lw).trans l4, ⟨by rw [← hw]; exact R4.v.wipe hx vs, R4.c⟩, q'⟩
        | true =>
          simp only [et] at q'
          show if true = true then _ else _
          rw [if_pos rfl]
          refine ⟨w4, s4, R4, ?_⟩
          cases ef : f s4 with
          | bad => simp only [ef] at q'; exact q'.elim
          | exc x s5 => simp only [ef] at q'; exact q'.elim
          | ok y s5 =>
            cases y with
            | rf j => simp only [ef] at q'; exact q'.elim
            | d y =>
              simp only [ef] at q'
              intro w5 H5 l5 R5 v5 r5
              have l15 : w'.le w5 := (lw.trans l4).trans l5
              have at5 := l15.at atD
              cases ec : s5.c[n]? with
              | none => simp only [ec] at q'; exact q'.elim
              | some c =>
                cases c with
                | lst acc =>
                  simp only [ec] at q'
                  by_cases hz : sz (acc.length + 1) = true
                  · simp only [hz, if_true] at q'
                    obtain ⟨q0, us, qa, qr⟩ := R5.c.ok n D _ at5 ec
                    have hl := sz_le hz
                    refine ⟨us, qa, by rw [qr.length]; omega, hlt, w5, ⟨wipeR s5.r vs, s5.c.set n (.lst (acc ++ [y]))⟩, l'.trans l15, ⟨by rw [← hw]; exact R5.v.wipe hx vs, R5.c.putL at5 q0 (qr.append (.cons r5 .nil))⟩, q'⟩
                  · simp only [hz] at q'; exact q'.elim
                | _ => simp only [ec] at q'; exact q'.elim
  · have e : i = ds.length := by omega
    subst e
    rw [List.drop_length] at q'
    refine .inl ⟨src.stop w' _ H' _ (lD.trans l') R'.c (Nat.le_refl _), ?_⟩
    unfold lcL lcO at q'
    simp only at q'
    cases ec : s'.c[n]? with
    | none => simp only [ec] at q'; exact q'.elim
    | some c =>
      cases c with
      | lst acc =>
        simp only [ec] at q'
        obtain ⟨q0, us, qa, qr⟩ := R'.c.ok n D _ atD ec
        have l2 : w1.le ⟨w'.as.take n, w'.Hs⟩ := by
          obtain ⟨_, z⟩ := (lD.trans l').cut R1.c.len
          exact z
        have fin := q' ⟨w'.as.take n, w'.Hs⟩ (dl H' D) l2 ⟨R1.v.mono l2, R'.c.pop atD q0⟩ D us (if_pos rfl) qr
        rw [dl_upd qa] at fin
        exact fin
      | _ => simp only [ec] at q'; exact q'.elim
abbrev blkX (X : Cx) (s : Shared) (H : Hp) (scope : Scope) (C : Addr) (cl : List (Str × Addr)) (fp : List Addr) : Cx := X.blk s H scope (compEnvC scope cl C X.env) fp
theorem Fx.blk {k : Nat} (C : Fx X G W k) (s : Shared) (H : Hp) (scope : Scope) (cenv : Env) (fp : List Addr) : Fx (X.blk s H scope cenv fp) G W0 k := .of C.K C.nd C.hr takes0 PassesOwn.never C.calm
theorem lf_lc {k : Nat} {elt tg iter : Expr} {ifs : List Expr} {scope : Scope} {own : List (Str × Nat)} {us : List Nat} {pos : Pos} {it : S → Res (List D)} {g : D → S → Option S} {t : S → Res Bool} {f : S → Res Val} (C : Fx X G W k) (hi : IF X G W tg iter it) (ok : BlkOk X.N X.env.scope scope own)
    (hg : ∀ (s : Shared) (H : Hp) (C : Addr) (cl : List (Str × Addr)) (fp : List Addr), GF (blkX X s H scope C cl fp) G tg us g)
    (ht : ∀ (s : Shared) (H : Hp) (C : Addr) (cl : List (Str × Addr)) (fp : List Addr), Fx (blkX X s H scope C cl fp) G W0 k → PTs (blkX X s H scope C cl fp) ifs (tIT G W0 t))
    (he : ∀ (s : Shared) (H : Hp) (C : Addr) (cl : List (Str × Addr)) (fp : List Addr), Fx (blkX X s H scope C cl fp) G W0 k → EF (blkX X s H scope C cl fp) G W0 elt f) (hv : ∀ i ∈ us, i ∈ own.map (·.2)) (hs : ∀ x, foldedSetIterable iter X.env x = pure x := by intro _; rfl) (hx : G.ex = none := by rfl) :
    LF X G W (.ListComp elt [⟨tg, iter, ifs, 0⟩] scope pos) (lcF it g t f (own.map (·.2))) :=
  (pe_lc C.calm C.nd hi ok hg (fun s H A cl fp => ht s H A cl fp (C.blk ..)) (fun s H A cl fp => he s H A cl fp (C.blk ..)) hs).imp fun _ _ _ h => lc_of hx hv h
/-- name = [..] on one line -/
theorem sf_setLc {k i : Nat} {y : Str} {py : Pos} {elt tg iter : Expr} {ifs : List Expr} {scope : Scope} {own : List (Str × Nat)} {us : List Nat} {pos spos : Pos} {it : S → Res (List D)} {g : D → S → Option S} {t : S → Res Bool} {f : S → Res Val} (C : Fx X G W k) (hy : X.N[i]? = some y) (hyl : X.env.scope.names.lookup y = some .local)
    (hsw : swapsWith (.ListComp elt [⟨tg, iter, ifs, 0⟩] scope pos) (some (.Name y py)) spos.line X.env = pure true) (hi : IF X G W tg iter it) (ok : BlkOk X.N X.env.scope scope own)
    (hg : ∀ (s : Shared) (H : Hp) (C : Addr) (cl : List (Str × Addr)) (fp : List Addr), GF (blkX X s H scope C cl fp) G tg us g)
    (ht : ∀ (s : Shared) (H : Hp) (C : Addr) (cl : List (Str × Addr)) (fp : List Addr), Fx (blkX X s H scope C cl fp) G W0 k → PTs (blkX X s H scope C cl fp) ifs (tIT G W0 t))
    (he : ∀ (s : Shared) (H : Hp) (C : Addr) (cl : List (Str × Addr)) (fp : List Addr), Fx (blkX X s H scope C cl fp) G W0 k → EF (blkX X s H scope C cl fp) G W0 elt f) (hv : ∀ i ∈ us, i ∈ own.map (·.2)) (hs : ∀ x, foldedSetIterable iter X.env x = pure x := by intro _; rfl) (hx : G.ex = none := by rfl) :
    SF X G W (.Assign [.Name y py] (.ListComp elt [⟨tg, iter, ifs, 0⟩] scope pos) spos) (setS i (frzF (lcF it g t f (own.map (·.2))))) ∧ SF X G W (.Assign [.Name y py] (.ListComp elt [⟨tg, iter, ifs, 0⟩] scope pos) spos) (setCS i (lcF it g t f (own.map (·.2)))) := by
  have base := ps_setLc C.calm C.nd hy hyl hsw hi ok hg (fun s H A cl fp => ht s H A cl fp (C.blk ..)) (fun s H A cl fp => he s H A cl fp (C.blk ..)) hs
  refine ⟨base.imp fun Ed σ H ⟨w, st, R, q⟩ => ?_, base.imp fun Ed σ H ⟨w, st, R, q⟩ => ?_⟩
  · refine lc_of (W := W) hx hv ⟨w, st, R, ?_⟩
    have q0 : PostS G W Ed w (bindS (lcF it g t f (own.map (·.2)) st) fun ds s => .nx ⟨s.r.set i (some (.d (.lst ds))), s.c⟩) := by
      have e : setS i (frzF (lcF it g t f (own.map (·.2)))) st = bindS (lcF it g t f (own.map (·.2)) st) fun ds s => .nx ⟨s.r.set i (some (.d (.lst ds))), s.c⟩ := by
        unfold setS frzF
        cases lcF it g t f (own.map (·.2)) st <;> rfl
      rw [← e]; exact q
    refine q0.bindE fun w1 H1 s1 ds _ R1 q1 p us hp r => ?_
    have hs := R1.c.fresh hp
    have l : w1.le ⟨w1.as, upd w1.Hs p (.lst us)⟩ := Wd.le.grow hs
    exact q1 ⟨w1.as, upd w1.Hs p (.lst us)⟩ _ _ l ⟨(R1.v.mono l).set (d := .d (.lst ds)) (Rep.lst upd_same (r.mono (Exd.new hs))) (Gx.fr_none hx i), R1.c.grow hp hs⟩
  · refine lc_of (W := W) hx hv ⟨w, st, R, ?_⟩
    refine q.bindE fun w1 H1 s1 ds _ R1 q1 p us hp r => ?_
    have l : w1.le ⟨w1.as ++ [p], w1.Hs⟩ := .snoc
    exact q1 ⟨w1.as ++ [p], w1.Hs⟩ _ _ l ⟨(R1.v.mono l).set (repV_last R1.c.len) (Gx.fr_none hx i), R1.c.cellL hp r⟩
end
end FL

set_option Elab.async false
set_option linter.all false
set_option maxRecDepth 100000
set_option maxHeartbeats 4000000
namespace FL
open PySem PySem.Spec PyProof.Rows L2

/-! ### equality of data -/
mutual
def D.eqv : D → D → Bool
  | .non, .non => true
  | .bl a, .bl b => a == b
  | .bl a, .int j => (if a then 1 else 0) == j
  | .int i, .bl b => i == (if b then 1 else 0)
  | .int i, .int j => i == j
  | .str x, .str y => x == y
  | .lst xs, .lst ys => eqvL xs ys
  | .tup xs, .tup ys => eqvL xs ys
  | _, _ => false
def eqvL : List D → List D → Bool
  | [], [] => true
  | x :: xs, y :: ys => D.eqv x y && eqvL xs ys
  | [], _ :: _ => false
  | _ :: _, [] => false
end
mutual
def toPy : D → PyData
  | .non => .none
  | .bl b => .bool b
  | .int i => .int i
  | .str x => .str x
  | .tup ds => .tuple (toPyL ds)
  | .lst ds => .list (toPyL ds)
  | .scr _ => .none
  | .ins _ _ => .none
  | .ty _ => .none
  | .cl _ => .none
def toPyL : List D → List PyData
  | [] => []
  | d :: ds => toPy d :: toPyL ds
end
mutual
/-- plain data, at most so deep -/
def okq : Nat → D → Bool
  | _, .non => true
  | _, .bl _ => true
  | _, .int _ => true
  | _, .str x => PyData.strOk x
  | n + 1, .tup ds => okqL n ds
  | n + 1, .lst ds => okqL n ds
  | _, _ => false
def okqL : Nat → List D → Bool
  | _, [] => true
  | n, d :: ds => okq n d && okqL n ds
end
mutual
theorem okq_lay : ∀ (d : D) (n : Nat), okq n d = true → (toPy d).canLay0 = true ∧ (toPy d).depth ≤ n
  | .non, n, _ => by simp [toPy, PyData.canLay0, PyData.depth]
  | .bl _, n, _ => by simp [toPy, PyData.canLay0, PyData.depth]
  | .int _, n, _ => by simp [toPy, PyData.canLay0, PyData.depth]
  | .str x, n, h => by simp [okq] at h; simp [toPy, PyData.canLay0, PyData.depth, h]
  | .tup ds, 0, h => by simp [okq] at h
  | .tup ds, n + 1, h => by
    simp [okq] at h
    have := okqL_lay ds n h
    simp [toPy, PyData.canLay0, PyData.depth]; exact this
  | .lst ds, 0, h => by simp [okq] at h
  | .lst ds, n + 1, h => by
    simp [okq] at h
    have := okqL_lay ds n h
    simp [toPy, PyData.canLay0, PyData.depth]; exact this
  | .scr _, n, h => by simp [okq] at h
  | .ins _ _, n, h => by simp [okq] at h
  | .ty _, n, h => by simp [okq] at h
  | .cl _, n, h => by simp [okq] at h
theorem okqL_lay : ∀ (ds : List D) (n : Nat), okqL n ds = true → PyData.canLayAll0 (toPyL ds) = true ∧ PyData.depthAll (toPyL ds) ≤ n
  | [], n, _ => by simp [toPyL, PyData.canLayAll0, PyData.depthAll]
  | d :: ds, n, h => by
    simp [okqL] at h
    have h1 := okq_lay d n h.1
    have h2 := okqL_lay ds n h.2
    simp [toPyL, PyData.canLayAll0, PyData.depthAll, h1, h2]
    omega
end
theorem okq_shaped {d : D} (h : okq 60 d = true) : SeqAt.shaped (toPy d) = true := by
  obtain ⟨a, b⟩ := okq_lay d 60 h
  unfold SeqAt.shaped
  rw [a, decide_eq_true (Nat.le_trans b (by decide))]; rfl
mutual
theorem toPy_eqv : ∀ (d e : D) (n m : Nat), okq n d = true → okq m e = true → PyData.eqv (toPy d) (toPy e) = D.eqv d e
  | .non, e, n, m, _, he => by cases e <;> simp_all [okq, toPy, PyData.eqv, D.eqv]
  | .bl _, e, n, m, _, he => by cases e <;> simp_all [okq, toPy, PyData.eqv, D.eqv]
  | .int _, e, n, m, _, he => by cases e <;> simp_all [okq, toPy, PyData.eqv, D.eqv]
  | .str _, e, n, m, _, he => by cases e <;> simp_all [okq, toPy, PyData.eqv, D.eqv]
  | .tup ds, e, 0, m, hd, he => by simp [okq] at hd
  | .tup ds, e, n + 1, m, hd, he => by
    cases e with
    | tup es =>
      cases m with
      | zero => simp [okq] at he
      | succ m => simp only [toPy, PyData.eqv, D.eqv]; exact toPyL_eqv ds es n m (by simpa [okq] using hd) (by simpa [okq] using he)
    | _ => simp_all [okq, toPy, PyData.eqv, D.eqv]
  | .lst ds, e, 0, m, hd, he => by simp [okq] at hd
  | .lst ds, e, n + 1, m, hd, he => by
    cases e with
    | lst es =>
      cases m with
      | zero => simp [okq] at he
      | succ m => simp only [toPy, PyData.eqv, D.eqv]; exact toPyL_eqv ds es n m (by simpa [okq] using hd) (by simpa [okq] using he)
    | _ => simp_all [okq, toPy, PyData.eqv, D.eqv]
  | .scr _, e, n, m, hd, _ => by simp [okq] at hd
  | .ins _ _, e, n, m, hd, _ => by simp [okq] at hd
  | .ty _, e, n, m, hd, _ => by simp [okq] at hd
  | .cl _, e, n, m, hd, _ => by simp [okq] at hd
theorem toPyL_eqv : ∀ (ds es : List D) (n m : Nat), okqL n ds = true → okqL m es = true → PyData.eqvAll (toPyL ds) (toPyL es) = eqvL ds es
  | [], [], _, _, _, _ => by simp [toPyL, PyData.eqvAll, eqvL]
  | [], _ :: _, _, _, _, _ => by simp [toPyL, PyData.eqvAll, eqvL]
  | _ :: _, [], _, _, _, _ => by simp [toPyL, PyData.eqvAll, eqvL]
  | d :: ds, e :: es, n, m, hd, he => by
    simp [okqL] at hd he
    simp only [toPyL, PyData.eqvAll, eqvL]
    rw [toPy_eqv d e n m hd.1 he.1, toPyL_eqv ds es n m hd.2 he.2]
end
section
variable {X : Cx} {G : Gx} {W : WX}
mutual
theorem Rep.dp {H : Hp} : ∀ (d : D) (v : V) (n : Nat), Rep G H v d → okq n d = true → Dp G.K H v (toPy d)
  | .non, _, _, r, _ => by cases r; exact .non
  | .bl b, _, _, r, _ => by cases r; exact .bl b
  | .int i, _, _, r, _ => by cases r; exact .int i
  | .str x, _, _, r, _ => by cases r; exact .str x
  | .tup ds, _, 0, r, h => by simp [okq] at h
  | .tup ds, _, n + 1, r, h => by
    cases r with
    | tup hs hr => exact Dp.tup hs (RepL.dp ds _ n hr (by simpa [okq] using h))
  | .lst ds, _, 0, r, h => by simp [okq] at h
  | .lst ds, _, n + 1, r, h => by
    cases r with
    | lst hs hr => exact Dp.lst (.inl (.inl hs)) (RepL.dp ds _ n hr (by simpa [okq] using h))
  | .scr _, _, n, _, h => by simp [okq] at h
  | .ins _ _, _, n, _, h => by simp [okq] at h
  | .ty _, _, n, _, h => by simp [okq] at h
  | .cl _, _, n, _, h => by simp [okq] at h
theorem RepL.dp {H : Hp} : ∀ (ds : List D) (vs : List V) (n : Nat), RepL G H vs ds → okqL n ds = true → DpAll G.K H vs (toPyL ds)
  | [], _, _, r, _ => by cases r; exact .nil
  | d :: ds, _, n, r, h => by
    cases r with
    | cons a b =>
      simp [okqL] at h
      exact .cons (Rep.dp d _ n a h.1) (RepL.dp ds _ n b h.2)
end
/-- the data that a value is, at this moment -/
def denV (x : Val) (cs : List Cell) : Option D := match x with
  | .d d => some d
  | .rf j => match cs[j]? with
    | some (.lst ds) => some (.lst ds)
    | _ => none
theorem den_rep {w : Wd} {cs : List Cell} {H : Hp} (R : RelC G w cs H) {v : V} {x : Val} {d : D} (r : RepV G w v x) (h : denV x cs = some d) : Rep G H v d := by
  cases x with
  | d x => cases h; exact R.rep r
  | rf j =>
    unfold denV at h
    cases e : cs[j]? with
    | none => simp only [e] at h; cases h
    | some c =>
      simp only [e] at h
      obtain ⟨a, rfl, _, q⟩ := R.cell r e
      cases c with
      | lst ds =>
        cases h
        obtain ⟨_, us, q1, q2⟩ := q
        exact Rep.lst q1 (q2.mono R.ex)
      | _ => cases h
def strEq : D → D → Option Bool
  | .str x, .str y => some (decide (x = y))
  | _, _ => none
def eqB (x y : Val) (cs : List Cell) : Option Bool := match denV x cs, denV y cs with
  | some d, some e => match strEq d e with
    | some b => some b
    | none => if (okq 60 d && okq 60 e) = true then some (D.eqv d e) else none
  | _, _ => none
def eqO : O2 := fun x y cs => (eqB x y cs).map fun b => .d (.bl b)
def neO : O2 := fun x y cs => (eqB x y cs).map fun b => .d (.bl (!b))
theorem strEq_some {d e : D} {b : Bool} (h : strEq d e = some b) : ∃ x y, d = .str x ∧ e = .str y ∧ b = decide (x = y) := by
  unfold strEq at h
  split at h
  · cases h; exact ⟨_, _, rfl, rfl, rfl⟩
  · cases h
theorem eqB_of {w : Wd} {cs : List Cell} {H : Hp} (R : RelC G w cs H) {v u : V} {x y : Val} {b : Bool} (rx : RepV G w v x) (ry : RepV G w u y) (h : eqB x y cs = some b) :
    (scal v u = true ∧ decide (v = u) = b) ∨ ∃ d e, Dp G.K H v d ∧ Dp G.K H u e ∧ SeqAt.shaped d = true ∧ SeqAt.shaped e = true ∧ PyData.eqv d e = b := by
  unfold eqB at h
  cases e1 : denV x cs with
  | none => simp only [e1] at h; cases h
  | some d =>
    cases e2 : denV y cs with
    | none => simp only [e1, e2] at h; cases h
    | some e =>
      simp only [e1, e2] at h
      have r1 := den_rep R rx e1
      have r2 := den_rep R ry e2
      cases es : strEq d e with
      | some b' =>
        simp only [es] at h
        cases h
        obtain ⟨p, q, rfl, rfl, rfl⟩ := strEq_some es
        cases r1
        cases r2
        refine .inl ⟨rfl, ?_⟩
        by_cases z : p = q
        · subst z; simp
        · rw [decide_eq_false z, decide_eq_false (fun e => z (V.str.inj e))]
      | none =>
        simp only [es] at h
        by_cases z : (okq 60 d && okq 60 e) = true
        · rw [if_pos z] at h
          cases h
          rw [Bool.and_eq_true] at z
          exact .inr ⟨toPy d, toPy e, Rep.dp d _ 60 r1 z.1, Rep.dp e _ 60 r2 z.2, okq_shaped z.1, okq_shaped z.2, toPy_eqv d e 60 60 z.1 z.2⟩
        · rw [if_neg z] at h; cases h
theorem o_eq (hK : X.K = G.K) (hu : X.A.units + 64 < cLine) : OpF X G (compareOp .Eq) eqO := (op_eq.or (op_eqD hu)).imp fun x y H Q ⟨w, cs, dx, dy, R, rx, ry, q⟩ => by
  unfold eqO at q
  cases e : eqB dx dy cs with
  | none => rw [e] at q; exact q.elim
  | some b =>
    rw [e] at q
    rcases eqB_of R rx ry e with ⟨h1, h2⟩ | ⟨d, f, h1, h2, h3, h4, h5⟩
    · exact .inl ⟨h1, by rw [h2]; exact Give.here R q (.bl _)⟩
    · exact .inr ⟨d, f, by rw [hK]; exact h1, by rw [hK]; exact h2, h3, h4, by rw [h5]; exact Give.here R q (.bl _)⟩
theorem o_ne (hK : X.K = G.K) (hu : X.A.units + 64 < cLine) : OpF X G (compareOp .NotEq) neO := (op_ne.or (op_neD hu)).imp fun x y H Q ⟨w, cs, dx, dy, R, rx, ry, q⟩ => by
  unfold neO at q
  cases e : eqB dx dy cs with
  | none => rw [e] at q; exact q.elim
  | some b =>
    rw [e] at q
    rcases eqB_of R rx ry e with ⟨h1, h2⟩ | ⟨d, f, h1, h2, h3, h4, h5⟩
    · exact .inl ⟨h1, by rw [h2]; exact Give.here R q (.bl _)⟩
    · exact .inr ⟨d, f, by rw [hK]; exact h1, by rw [hK]; exact h2, h3, h4, by rw [h5]; exact Give.here R q (.bl _)⟩
/-! ### + -/
def addO : O2 := fun x y cs => match x, y with
  | .d (.int i), .d (.int j) => some (.d (.int (i + j)))
  | .d (.str a), .d (.str b) => if sz (a.length + b.length) = true then some (.d (.str (a ++ b))) else none
  | .d (.tup a), .d (.tup b) => if sz (a.length + b.length) = true then some (.d (.tup (a ++ b))) else none
  | _, _ => match denV x cs, denV y cs with
    | some (.lst a), some (.lst b) => if sz (a.length + b.length) = true then some (.d (.lst (a ++ b))) else none
    | _, _ => none
theorem Give.if {w : Wd} {cs : List Cell} {Q : VK} {b : Bool} {d : Val} (q : Give G w cs (if b = true then some d else none) Q) : b = true ∧ Give G w cs (some d) Q := by
  cases b with
  | true => exact ⟨rfl, q⟩
  | false => exact q.elim
theorem o_add (hK : X.K = G.K) : OpF X G (binaryOp .Add) addO := (op_add.or (op_add_str.or (op_catA.or op_cat))).imp fun x y H Q ⟨w, cs, dx, dy, R, rx, ry, q⟩ => by
  have lists : ∀ {a b : List D}, denV dx cs = some (.lst a) → denV dy cs = some (.lst b) → Give G w cs (if sz (a.length + b.length) = true then some (.d (.lst (a ++ b))) else none) Q → rCat x y H Q := by
    intro a b e1 e2 q
    obtain ⟨z, q⟩ := Give.if q
    have key : ∀ {v : V} {x : Val} {a : List D}, RepV G w v x → denV x cs = some (.lst a) → ∃ l us, v = .ref l ∧ H l = some (.lst us) ∧ RepL G w.Hs us a := by
      intro v x a r e
      cases x with
      | d x => cases e; cases r with | lst hs hr => exact ⟨_, _, rfl, R.ex _ _ hs, hr⟩
      | rf j =>
        unfold denV at e
        cases ec : cs[j]? with
        | none => simp only [ec] at e; cases e
        | some c =>
          simp only [ec] at e
          obtain ⟨l, rfl, _, q⟩ := R.cell r ec
          cases c with
          | lst ds => cases e; obtain ⟨_, us, q1, q2⟩ := q; exact ⟨l, us, rfl, q1, q2⟩
          | _ => cases e
    obtain ⟨l, us, rfl, h1, h2⟩ := key rx e1
    obtain ⟨m, vs, rfl, h3, h4⟩ := key ry e2
    exact ⟨l, m, us, vs, rfl, rfl, h1, h3, by rw [h2.length, h4.length]; exact sz_le z, fun p hp => Give.lst R q (h2.append h4) hp⟩
  unfold addO at q
  split at q
  · cases rx; cases ry; exact .inl ⟨_, _, rfl, rfl, Give.here R q (.int _)⟩
  · obtain ⟨z, q⟩ := Give.if q
    cases rx; cases ry; exact .inr (.inl ⟨_, _, rfl, rfl, sz_le z, Give.here R q (.str _)⟩)
  · rename_i a b
    obtain ⟨z, q⟩ := Give.if q
    cases rx with
    | @tup l us _ h1 r1 => cases ry with
      | @tup m vs _ h2 r2 =>
        refine .inr (.inr (.inl ⟨l, m, us, vs, rfl, rfl, by rw [hK]; exact R.ex.t h1, by rw [hK]; exact R.ex.t h2, by rw [r1.length, r2.length]; exact sz_le z, fun e => ?_, fun _ e => ?_, fun _ _ p hp => Give.tup R q (r1.append r2) hp⟩))
        · subst e; cases r1; exact Give.here R q (Rep.tup h2 r2)
        · subst e; cases r2; rw [List.append_nil] at q; exact Give.here R q (Rep.tup h1 r1)
  · split at q
    · rename_i e1 e2
      exact .inr (.inr (.inr (lists e1 e2 q)))
    · exact q.elim
/-! ### freezing -/
def subV (j : Nat) (x : D) : Val → Val
  | .rf k => if k = j then .d x else .rf k
  | v => v
def fzS (j : Nat) (x : D) (st : S) : S := ⟨st.r.map (Option.map (subV j x)), st.c.set j .dead⟩
def fzF (i : Nat) : S → Res Val := fun st => match st.r[i]? with
  | some (some (.rf j)) => match st.c[j]? with
    | some (.lst ds) => .ok (.d (.lst ds)) (fzS j (.lst ds) st)
    | _ => .bad
  | some (some v) => .ok v st
  | _ => .bad
theorem RelC.freeze {w : Wd} {cs : List Cell} {H : Hp} (R : RelC G w cs H) {j : Nat} {a : Addr} {o : HO} (ea : w.as[j]? = some a) (hs : w.Hs a = none) (ho : H a = some o) : RelC G ⟨w.as, upd w.Hs a o⟩ (cs.set j .dead) H := by
  have l : Exd w.Hs (upd w.Hs a o) := Exd.new hs
  refine ⟨by rw [R.len, List.length_set], R.nd, fun b u e => ?_, fun i b d eb ed => ?_⟩
  · by_cases z : b = a
    · subst z
      have e' : upd w.Hs b o b = some u := e
      rw [upd_same] at e'; cases e'; exact ho
    · have e' : upd w.Hs a o b = some u := e
      rw [upd_ne z] at e'; exact R.ex b u e'
  · by_cases hi : i = j
    · subst hi
      have eb' : w.as[i]? = some b := eb
      rw [ea] at eb'; cases eb'
      have hl : i < cs.length := by
        have := (List.getElem?_eq_some_iff.mp ed).1
        simpa using this
      rw [List.getElem?_set_self hl] at ed; cases ed
      exact ⟨o, upd_same⟩
    · rw [List.getElem?_set_ne (Ne.symm hi)] at ed
      have nb : b ≠ a := fun z => by
        subst z
        obtain ⟨h1, e1⟩ := List.getElem?_eq_some_iff.mp ea
        obtain ⟨h2, e2⟩ := List.getElem?_eq_some_iff.mp eb
        exact hi ((List.getElem_inj R.nd).mp (e2.trans e1.symm))
      have q := R.ok i b d eb ed
      have e0 : upd w.Hs a o b = w.Hs b := upd_ne nb
      cases d with
      | dead => obtain ⟨u, q⟩ := q; exact ⟨u, e0.trans q⟩
      | lst ds => obtain ⟨q0, us, q1, q2⟩ := q; exact ⟨e0.trans q0, us, q1, q2.mono l⟩
      | nst js => obtain ⟨q0, qj, us, q1, q2⟩ := q; exact ⟨e0.trans q0, qj, us, q1, q2⟩
      | ins C fs => obtain ⟨q0, dx, us, q1, q2, q3⟩ := q; exact ⟨e0.trans q0, dx, us, q1, q2, q3.mono l⟩
      | dic kvs =>
        obtain ⟨q0, ⟨us, q1, q2, q3⟩ | ⟨us, q1, q2, q3⟩⟩ := q
        · exact ⟨e0.trans q0, .inl ⟨us, q1, q2, q3.mono l⟩⟩
        · exact ⟨e0.trans q0, .inr ⟨us, q1, q2, q3.mono l⟩⟩
theorem RelV.sub {w : Wd} {r : List (Option Val)} {σ : L2.St} (h : RelV G w r σ) {j : Nat} {a : Addr} {x : D} (ea : w.as[j]? = some a) (rx : Rep G w.Hs (.ref a) x) : RelV G w (r.map (Option.map (subV j x))) σ := by
  refine ⟨by rw [List.length_map]; exact h.len, fun i d e => ?_, h.x⟩
  rw [List.getElem?_map] at e
  cases ei : r[i]? with
  | none => rw [ei] at e; cases e
  | some o =>
    rw [ei] at e
    cases o with
    | none => cases e
    | some v =>
      cases e
      obtain ⟨u, e2, r2⟩ := h.ok i v ei
      refine ⟨u, e2, ?_⟩
      cases v with
      | d y => exact r2
      | rf k =>
        show RepV G w u (if k = j then .d x else .rf k)
        by_cases z : k = j
        · subst z
          rw [if_pos rfl]
          obtain ⟨b, eb, rfl⟩ := r2
          rw [ea] at eb; cases eb
          exact rx
        · rw [if_neg z]; exact r2
theorem ef_fz (i : Nat) {x : Str} {pos : Pos} (h : PE X (.Name x pos) (tVar i)) : EF X G W (.Name x pos) (fzF i) := h.imp fun σ H Q ⟨w, st, R, q⟩ => by
  unfold fzF at q
  cases e : st.r[i]? with
  | none => simp only [e] at q; exact q.elim
  | some o =>
    cases o with
    | none => simp only [e] at q; exact q.elim
    | some d =>
      simp only [e] at q
      obtain ⟨v, ev, rv⟩ := R.v.ok i d e
      cases d with
      | d d => exact ⟨v, ev, q w H (.refl w) R v rv⟩
      | rf j =>
        simp only at q
        cases ec : st.c[j]? with
        | none => simp only [ec] at q; exact q.elim
        | some c =>
          cases c with
          | lst ds =>
            simp only [ec] at q
            obtain ⟨a, rfl, ea, q0, us, q1, q2⟩ := R.c.cell rv ec
            have l : w.le ⟨w.as, upd w.Hs a (.lst us)⟩ := Wd.le.grow q0
            have rx : Rep G (upd w.Hs a (.lst us)) (.ref a) (.lst ds) := Rep.lst upd_same (q2.mono (Exd.new q0))
            exact ⟨_, ev, q ⟨w.as, upd w.Hs a (.lst us)⟩ H l ⟨(R.v.mono l).sub ea rx, R.c.freeze ea q0 q1⟩ _ rx⟩
          | _ => simp only [ec] at q; exact q.elim
/-! ### list(..), tuple(..) -/
def tupO : ON := fun xs cs => match xs with
  | [x] => (listOf x cs).map fun ds => .d (.tup ds)
  | _ => none
theorem seq_ofL {w : Wd} {cs : List Cell} {H : Hp} (R : RelC G w cs H) {x : V} {d : Val} {ds : List D} (r : RepV G w x d) (h : listOf d cs = some ds) (nt : ∀ es, d ≠ .d (.tup es)) : ∃ a vs, x = .ref a ∧ SqL G.K H a vs ∧ RepL G w.Hs vs ds := by
  cases d with
  | d d =>
    cases d with
    | lst es => cases h; cases r with | lst hs hr => exact ⟨_, _, rfl, .inl (.inl (R.ex _ _ hs)), hr⟩
    | scr es => cases h; cases r with | scr hs hr => exact ⟨_, _, rfl, R.ex.l hs, hr⟩
    | tup es => exact absurd rfl (nt es)
    | _ => cases h
  | rf j =>
    unfold listOf at h
    cases e : cs[j]? with
    | none => simp only [e] at h; cases h
    | some c =>
      simp only [e] at h
      cases c with
      | lst es =>
        cases h
        obtain ⟨a, rfl, _, q⟩ := R.cell r e
        obtain ⟨_, us, q1, q2⟩ := q
        exact ⟨a, us, rfl, .inl (.inl q1), q2⟩
      | _ => cases h
theorem ob_tuple (hK : X.K = G.K) : CallR X (.type "tuple") (rN G tupO) := call_tuple_of.imp fun vs H Q ⟨w, cs, ds, R, r, q⟩ => by
  cases ds with
  | nil => exact q.elim
  | cons x t =>
    cases t with
    | cons _ _ => exact q.elim
    | nil =>
      obtain ⟨v, rfl, rv⟩ := repVs_one r
      unfold tupO at q
      cases e : listOf x cs with
      | none => simp only [e] at q; exact q.elim
      | some ds =>
        simp only [e] at q
        by_cases ht : ∃ es, x = .d (.tup es)
        · obtain ⟨es, rfl⟩ := ht
          cases e
          cases rv with
          | tup h1 h2 => exact ⟨_, _, rfl, .inr ⟨by rw [hK]; exact R.ex.t h1, Give.here R q (Rep.tup h1 h2)⟩⟩
        · obtain ⟨a, us, rfl, hq, rl⟩ := seq_ofL R rv e fun es z => ht ⟨es, z⟩
          exact ⟨a, us, rfl, .inl ⟨by rw [hK]; exact hq, fun p hp => Give.tup R q rl hp⟩⟩
/-- list(e): a new list -/
def lstOf (g : S → Res (List Val)) : S → Res (List D) := fun st => bindR (g st) fun xs s => match xs with
  | [x] => optR (listOf x s.c) s
  | _ => .bad
theorem lf_list {x : Str} {p pos : Pos} {e : Expr} {g : S → Res (List Val)} (hK : X.K = G.K) (hg : Gl X x) (hm : X.mg x = none) (hv : bootBuiltins x = some (.type "list")) (ha : AF X G W [e] g) (hn : x ≠ "__name__" := by decide) (hdb : (x == ("__debug__" : Str)) = false := by decide)
    (he : starEach [e] X.env = (false, eval e X.env) :: starEach [] X.env := by rfl) (hpl : (backTo pos (starEach [] X.env)).any (·.1) = false := by rfl) : LF X G W (.Call (.Name x p) [e] [] pos) (lstOf g) := (pe_callTy call_list_of hg hm hv ha hn hdb he hpl).imp fun σ H Q ⟨w, st, R, q⟩ => by
  refine ⟨w, st, R, q.bind fun w1 H1 s1 xs _ R1 q1 vs rvs => ?_⟩
  cases xs with
  | nil => exact q1.elim
  | cons x t =>
    cases t with
    | cons _ _ => exact q1.elim
    | nil =>
      obtain ⟨v, rfl, rv⟩ := repVs_one rvs
      have q1 : PostE G W σ w1 (optR (listOf x s1.c) s1) fun w' H' _ ds => ∀ p us, H' p = none → RepL G w'.Hs us ds → Q (.ref p) (upd H' p (.lst us)) := q1
      cases e : listOf x s1.c with
      | none => rw [e] at q1; exact q1.elim
      | some ds =>
        rw [e] at q1
        obtain ⟨a, us, rfl, hq, rl⟩ := seq_of R1.c rv e
        exact ⟨a, us, rfl, by rw [hK]; exact hq, fun p hp => q1 w1 H1 (.refl _) R1 p us hp rl⟩
end
end FL

set_option Elab.async false
set_option linter.all false
set_option maxRecDepth 100000
set_option maxHeartbeats 4000000
namespace FL
open PySem PySem.Spec L2
/-! ### evaluation by simp: only what is reached is looked at -/
section
variable {α β : Type}
@[simp] theorem bindR_ok (a : α) (s : S) (k : α → S → Res β) : bindR (.ok a s) k = k a s := rfl
@[simp] theorem bindR_exc (x : Exn) (s : S) (k : α → S → Res β) : bindR (.exc x s) k = .exc x s := rfl
@[simp] theorem bindR_bad (k : α → S → Res β) : bindR .bad k = .bad := rfl
@[simp] theorem bindS_ok (a : α) (s : S) (k : α → S → SRes) : bindS (.ok a s) k = k a s := rfl
@[simp] theorem bindS_exc (x : Exn) (s : S) (k : α → S → SRes) : bindS (.exc x s) k = .exc x s := rfl
@[simp] theorem bindS_bad (k : α → S → SRes) : bindS .bad k = .bad := rfl
def thenS (r : SRes) (k : S → SRes) : SRes := match r with
  | .nx s => k s
  | r => r
@[simp] theorem seqS_eq (g k : S → SRes) (st : S) : seqS g k st = thenS (g st) k := rfl
@[simp] theorem thenS_nx (s : S) (k : S → SRes) : thenS (.nx s) k = k s := rfl
@[simp] theorem thenS_ret (v : Val) (s : S) (k : S → SRes) : thenS (.ret v s) k = .ret v s := rfl
@[simp] theorem thenS_brk (s : S) (k : S → SRes) : thenS (.brk s) k = .brk s := rfl
@[simp] theorem thenS_ct (s : S) (k : S → SRes) : thenS (.ct s) k = .ct s := rfl
@[simp] theorem thenS_exc (x : Exn) (s : S) (k : S → SRes) : thenS (.exc x s) k = .exc x s := rfl
@[simp] theorem thenS_bad (k : S → SRes) : thenS .bad k = .bad := rfl
/-- a choice whose arms wait -/
def selS (b : Bool) (g k : S → SRes) (s : S) : SRes := if b = true then g s else k s
@[simp] theorem selS_true (g k : S → SRes) (s : S) : selS true g k s = g s := rfl
@[simp] theorem selS_false (g k : S → SRes) (s : S) : selS false g k s = k s := rfl
def selR (b : Bool) (g k : S → Res α) (s : S) : Res α := if b = true then g s else k s
@[simp] theorem selR_true (g k : S → Res α) (s : S) : selR true g k s = g s := rfl
@[simp] theorem selR_false (g k : S → Res α) (s : S) : selR false g k s = k s := rfl
@[simp] theorem optR_some (a : α) (s : S) : optR (some a) s = .ok a s := rfl
@[simp] theorem optR_none (s : S) : optR (none : Option α) s = .bad := rfl

/-! what follows, by name: a name that is not applied is not looked into -/
variable {o : O2} {fa fb f : S → Res Val} {x y v : Val}
def k_bin1 (o : O2) (fb : S → Res Val) (x : Val) (s : S) : Res Val := bindR (fb s) fun y s2 => optR (o x y s2.c) s2
def k_bin2 (o : O2) (x y : Val) (s : S) : Res Val := optR (o x y s.c) s
@[simp] theorem k_bin1_eq (s : S) : k_bin1 o fb x s = bindR (fb s) (k_bin2 o x) := rfl
@[simp] theorem k_bin2_eq (s : S) : k_bin2 o x y s = optR (o x y s.c) s := rfl
@[simp] theorem cF_eq (d : D) (st : S) : cF d st = .ok (.d d) st := rfl
@[simp] theorem binF_eq (st : S) : binF o fa fb st = bindR (fa st) (k_bin1 o fb) := rfl
def k_un (o : O1) (x : Val) (s : S) : Res Val := optR (o x s.c) s
@[simp] theorem k_un_eq (o : O1) (s : S) : k_un o x s = optR (o x s.c) s := rfl
@[simp] theorem unF_eq (o : O1) (st : S) : unF o f st = bindR (f st) (k_un o) := rfl
@[simp] theorem boolV_bl (b : Bool) : boolV (.d (.bl b)) = some b := rfl
def k_tst (v : Val) (s : S) : Res Bool := optR (boolV v) s
@[simp] theorem k_tst_eq (s : S) : k_tst v s = optR (boolV v) s := rfl
@[simp] theorem tstF_eq (st : S) : tstF f st = bindR (f st) k_tst := rfl
def k_not (b : Bool) (s : S) : Res Bool := .ok (!b) s
@[simp] theorem k_not_eq (b : Bool) (s : S) : k_not b s = .ok (!b) s := rfl
@[simp] theorem notF_eq (f : S → Res Bool) (st : S) : notF f st = bindR (f st) k_not := rfl
def k_false (s : S) : Res Bool := .ok false s
def k_true (s : S) : Res Bool := .ok true s
@[simp] theorem k_false_eq (s : S) : k_false s = .ok false s := rfl
@[simp] theorem k_true_eq (s : S) : k_true s = .ok true s := rfl
def k_sel (g h : S → Res α) (b : Bool) (s : S) : Res α := selR b g h s
@[simp] theorem k_sel_eq (g h : S → Res α) (b : Bool) (s : S) : k_sel g h b s = selR b g h s := rfl
@[simp] theorem andF_eq (f g : S → Res Bool) (st : S) : andF f g st = bindR (f st) (k_sel g k_false) := rfl
@[simp] theorem orF_eq (f g : S → Res Bool) (st : S) : orF f g st = bindR (f st) (k_sel k_true g) := rfl
def k_falseV (s : S) : Res Val := .ok (.d (.bl false)) s
def k_trueV (s : S) : Res Val := .ok (.d (.bl true)) s
@[simp] theorem k_falseV_eq (s : S) : k_falseV s = .ok (.d (.bl false)) s := rfl
@[simp] theorem k_trueV_eq (s : S) : k_trueV s = .ok (.d (.bl true)) s := rfl
def k_selV (g h : S → Res Val) (v : Val) (s : S) : Res Val := bindR (optR (boolV v) s) (k_sel g h)
@[simp] theorem k_selV_eq (g h : S → Res Val) (s : S) : k_selV g h v s = bindR (optR (boolV v) s) (k_sel g h) := rfl
@[simp] theorem andV_eq (f g : S → Res Val) (st : S) : andV f g st = bindR (f st) (k_selV g k_falseV) := rfl
@[simp] theorem orV_eq (f g : S → Res Val) (st : S) : orV f g st = bindR (f st) (k_selV k_trueV g) := rfl
def k_notV1 (b : Bool) (s : S) : Res Val := .ok (.d (.bl (!b))) s
def k_notV (v : Val) (s : S) : Res Val := bindR (optR (boolV v) s) k_notV1
@[simp] theorem k_notV1_eq (b : Bool) (s : S) : k_notV1 b s = .ok (.d (.bl (!b))) s := rfl
@[simp] theorem k_notV_eq (s : S) : k_notV v s = bindR (optR (boolV v) s) k_notV1 := rfl
@[simp] theorem notV_eq (st : S) : notV f st = bindR (f st) k_notV := rfl
@[simp] theorem ifF_eq (t : S → Res Bool) (f g : S → Res Val) (st : S) : ifF t f g st = bindR (t st) (k_sel f g) := rfl
@[simp] theorem aNil_eq (st : S) : aNil st = .ok [] st := rfl
def k_ac2 (x : Val) (xs : List Val) (s : S) : Res (List Val) := .ok (x :: xs) s
def k_ac1 (g : S → Res (List Val)) (x : Val) (s : S) : Res (List Val) := bindR (g s) (k_ac2 x)
@[simp] theorem k_ac2_eq (xs : List Val) (s : S) : k_ac2 x xs s = .ok (x :: xs) s := rfl
@[simp] theorem k_ac1_eq (g : S → Res (List Val)) (s : S) : k_ac1 g x s = bindR (g s) (k_ac2 x) := rfl
@[simp] theorem aCons_eq (g : S → Res (List Val)) (st : S) : aCons f g st = bindR (f st) (k_ac1 g) := rfl
@[simp] theorem pureD_nil : pureD [] = some [] := rfl
@[simp] theorem pureD_cons (x : D) (r : List Val) : pureD (.d x :: r) = (pureD r).map (x :: ·) := rfl
@[simp] theorem pureD_map (xs : List D) : pureD (xs.map Val.d) = some xs := by
  induction xs with
  | nil => rfl
  | cons x r ih => simp [ih]
theorem sz_of {n : Nat} (h : n ≤ 1000000) : sz n = true := decide_eq_true h
@[simp] theorem sz_0 : sz 0 = true := rfl
@[simp] theorem sz_1 : sz 1 = true := rfl
@[simp] theorem sz_2 : sz 2 = true := rfl
@[simp] theorem sz_3 : sz 3 = true := rfl
@[simp] theorem sz_4 : sz 4 = true := rfl
@[simp] theorem sz_5 : sz 5 = true := rfl
@[simp] theorem sz_6 : sz 6 = true := rfl
@[simp] theorem sz_7 : sz 7 = true := rfl
@[simp] theorem sz_8 : sz 8 = true := rfl
@[simp] theorem sz_9 : sz 9 = true := rfl
def k_tupo (ds : List D) (s : S) : Res Val := .ok (.d (.tup ds)) s
def k_lsto (ds : List D) (s : S) : Res (List D) := .ok ds s
def k_badR (_ : S) : Res α := .bad
@[simp] theorem k_tupo_eq (ds : List D) (s : S) : k_tupo ds s = .ok (.d (.tup ds)) s := rfl
@[simp] theorem k_lsto_eq (ds : List D) (s : S) : k_lsto ds s = .ok ds s := rfl
@[simp] theorem k_badR_eq (s : S) : (k_badR s : Res α) = .bad := rfl
def k_tup2 (ds : List D) (s : S) : Res Val := selR (sz ds.length) (k_tupo ds) k_badR s
def k_tup (xs : List Val) (s : S) : Res Val := bindR (optR (pureD xs) s) k_tup2
@[simp] theorem k_tup2_eq (ds : List D) (s : S) : k_tup2 ds s = selR (sz ds.length) (k_tupo ds) k_badR s := rfl
@[simp] theorem k_tup_eq (xs : List Val) (s : S) : k_tup xs s = bindR (optR (pureD xs) s) k_tup2 := rfl
@[simp] theorem tupF_eq (g : S → Res (List Val)) (st : S) : tupF g st = bindR (g st) k_tup := rfl
def k_lst2 (ds : List D) (s : S) : Res (List D) := selR (sz ds.length) (k_lsto ds) k_badR s
def k_lst (xs : List Val) (s : S) : Res (List D) := bindR (optR (pureD xs) s) k_lst2
@[simp] theorem k_lst2_eq (ds : List D) (s : S) : k_lst2 ds s = selR (sz ds.length) (k_lsto ds) k_badR s := rfl
@[simp] theorem k_lst_eq (xs : List Val) (s : S) : k_lst xs s = bindR (optR (pureD xs) s) k_lst2 := rfl
@[simp] theorem lstF_eq (g : S → Res (List Val)) (st : S) : lstF g st = bindR (g st) k_lst := rfl
def k_frz (ds : List D) (s : S) : Res Val := .ok (.d (.lst ds)) s
@[simp] theorem k_frz_eq (ds : List D) (s : S) : k_frz ds s = .ok (.d (.lst ds)) s := rfl
@[simp] theorem frzF_eq (g : S → Res (List D)) (st : S) : frzF g st = bindR (g st) k_frz := rfl
def k_cb (o : ON) (xs : List Val) (s : S) : Res Val := optR (o xs s.c) s
@[simp] theorem k_cb_eq (o : ON) (xs : List Val) (s : S) : k_cb o xs s = optR (o xs s.c) s := rfl
@[simp] theorem cbF_eq (o : ON) (g : S → Res (List Val)) (st : S) : cbF o g st = bindR (g st) (k_cb o) := rfl
def k_cl2 (F : FS) (xs : List Val) (s : S) : Res Val := liftF s.r (F xs s.c)
def k_call (F : FS) (n : Nat) (xs : List Val) (s : S) : Res Val := selR (decide (xs.length = n)) (k_cl2 F xs) k_badR s
@[simp] theorem k_cl2_eq (F : FS) (xs : List Val) (s : S) : k_cl2 F xs s = liftF s.r (F xs s.c) := rfl
@[simp] theorem k_call_eq (F : FS) (n : Nat) (xs : List Val) (s : S) : k_call F n xs s = selR (decide (xs.length = n)) (k_cl2 F xs) k_badR s := rfl
@[simp] theorem callF_eq (F : FS) (n : Nat) (g : S → Res (List Val)) (st : S) : callF F n g st = bindR (g st) (k_call F n) := by
  unfold callF
  congr 1
  funext xs s
  by_cases h : xs.length = n
  · rw [if_pos h, k_call_eq, decide_eq_true h]; rfl
  · rw [if_neg h, k_call_eq, decide_eq_false h]; rfl
@[simp] theorem liftF_ok (r : List (Option Val)) (v : Val) (c : List Cell) : liftF r (.ok v c) = .ok v ⟨r, c⟩ := rfl
@[simp] theorem liftF_exc (r : List (Option Val)) (x : Exn) (c : List Cell) : liftF r (.exc x c) = .exc x ⟨r, c⟩ := rfl
def k_bm2 (o : OM) (x : Val) (xs : List Val) (s : S) : Res Val := optC (o x xs s.c) s.r
def k_bm1 (o : OM) (g : S → Res (List Val)) (x : Val) (s : S) : Res Val := bindR (g s) (k_bm2 o x)
def k_bm (t : Val → List Cell → Bool) (o : OM) (g : S → Res (List Val)) (x : Val) (s : S) : Res Val := selR (t x s.c) (k_bm1 o g x) k_badR s
@[simp] theorem k_bm2_eq (o : OM) (xs : List Val) (s : S) : k_bm2 o x xs s = optC (o x xs s.c) s.r := rfl
@[simp] theorem k_bm1_eq (o : OM) (g : S → Res (List Val)) (s : S) : k_bm1 o g x s = bindR (g s) (k_bm2 o x) := rfl
@[simp] theorem k_bm_eq (t : Val → List Cell → Bool) (o : OM) (g : S → Res (List Val)) (s : S) : k_bm t o g x s = selR (t x s.c) (k_bm1 o g x) k_badR s := rfl
@[simp] theorem bmF_eq (t : Val → List Cell → Bool) (o : OM) (fo : S → Res Val) (g : S → Res (List Val)) (st : S) : bmF t o fo g st = bindR (fo st) (k_bm t o g) := rfl
@[simp] theorem optC_some (v : Val) (c : List Cell) (r : List (Option Val)) : optC (some (v, c)) r = .ok v ⟨r, c⟩ := rfl

@[simp] theorem nxS_eq (st : S) : nxS st = .nx st := rfl
@[simp] theorem brkS_eq (st : S) : brkS st = .brk st := rfl
@[simp] theorem ctS_eq (st : S) : ctS st = .ct st := rfl
def k_ret (v : Val) (s : S) : SRes := .ret v s
@[simp] theorem k_ret_eq (s : S) : k_ret v s = .ret v s := rfl
@[simp] theorem retS_eq (st : S) : retS f st = bindS (f st) k_ret := rfl
@[simp] theorem retNS_eq (st : S) : retNS st = .ret (.d .non) st := rfl
def k_drop (_ : Val) (s : S) : SRes := .nx s
@[simp] theorem k_drop_eq (s : S) : k_drop v s = .nx s := rfl
@[simp] theorem dropS_eq (st : S) : dropS f st = bindS (f st) k_drop := rfl
def k_selS (g k : S → SRes) (b : Bool) (s : S) : SRes := selS b g k s
@[simp] theorem k_selS_eq (g k : S → SRes) (b : Bool) (s : S) : k_selS g k b s = selS b g k s := rfl
@[simp] theorem ifS_eq (t : S → Res Bool) (g k : S → SRes) (st : S) : ifS t g k st = bindS (t st) (k_selS g k) := rfl
def k_set (i : Nat) (v : Val) (s : S) : SRes := .nx ⟨s.r.set i (some v), s.c⟩
@[simp] theorem k_set_eq (i : Nat) (s : S) : k_set i v s = .nx ⟨s.r.set i (some v), s.c⟩ := rfl
@[simp] theorem setS_eq (i : Nat) (st : S) : setS i f st = bindS (f st) (k_set i) := rfl
def k_setC (i : Nat) (ds : List D) (s : S) : SRes := .nx ⟨s.r.set i (some (.rf s.c.length)), s.c ++ [.lst ds]⟩
@[simp] theorem k_setC_eq (i : Nat) (ds : List D) (s : S) : k_setC i ds s = .nx ⟨s.r.set i (some (.rf s.c.length)), s.c ++ [.lst ds]⟩ := rfl
@[simp] theorem setCS_eq (i : Nat) (f : S → Res (List D)) (st : S) : setCS i f st = bindS (f st) (k_setC i) := rfl
def k_si4 (c : List Cell) (s : S) : SRes := .nx ⟨s.r, c⟩
def k_si3 (o v i : Val) (s : S) : SRes := bindS (optR (setI o i v s.c) s) k_si4
def k_si2 (fi : S → Res Val) (v o : Val) (s : S) : SRes := bindS (fi s) (k_si3 o v)
def k_si1 (fo fi : S → Res Val) (v : Val) (s : S) : SRes := bindS (fo s) (k_si2 fi v)
@[simp] theorem k_si4_eq (c : List Cell) (s : S) : k_si4 c s = .nx ⟨s.r, c⟩ := rfl
@[simp] theorem k_si3_eq (o v i : Val) (s : S) : k_si3 o v i s = bindS (optR (setI o i v s.c) s) k_si4 := rfl
@[simp] theorem k_si2_eq (fi : S → Res Val) (v o : Val) (s : S) : k_si2 fi v o s = bindS (fi s) (k_si3 o v) := rfl
@[simp] theorem k_si1_eq (fo fi : S → Res Val) (v : Val) (s : S) : k_si1 fo fi v s = bindS (fo s) (k_si2 fi v) := rfl
@[simp] theorem setiS_eq (fo fi fv : S → Res Val) (st : S) : setiS fo fi fv st = bindS (fv st) (k_si1 fo fi) := rfl
def k_it (v : Val) (s : S) : Res (List D) := optR (frzL v) s
@[simp] theorem k_it_eq (s : S) : k_it v s = optR (frzL v) s := rfl
@[simp] theorem itF_eq (st : S) : itF f st = bindR (f st) k_it := rfl
def k_rng (xs : List Val) (s : S) : Res (List D) := optR (rngO xs) s
@[simp] theorem k_rng_eq (xs : List Val) (s : S) : k_rng xs s = optR (rngO xs) s := rfl
@[simp] theorem rngF_eq (g : S → Res (List Val)) (st : S) : rngF g st = bindR (g st) k_rng := rfl
@[simp] theorem frzL_lst (ds : List D) : frzL (.d (.lst ds)) = some ds := rfl
@[simp] theorem frzL_tup (ds : List D) : frzL (.d (.tup ds)) = some ds := rfl
@[simp] theorem frzL_scr (ds : List D) : frzL (.d (.scr ds)) = some ds := rfl
@[simp] theorem nmG_eq (i : Nat) (d : D) (st : S) : nmG i d st = some ⟨st.r.set i (some (.d d)), st.c⟩ := rfl
def k_for (g : D → S → Option S) (b : S → SRes) (ds : List D) (s : S) : SRes := forF g b ds s
@[simp] theorem k_for_eq (g : D → S → Option S) (b : S → SRes) (ds : List D) (s : S) : k_for g b ds s = forF g b ds s := rfl
@[simp] theorem forS_eq (it : S → Res (List D)) (g : D → S → Option S) (b : S → SRes) (st : S) : forS it g b st = bindS (it st) (k_for g b) := rfl
/-- names: the slot is read off a written row -/
def getV (o : Option (Option Val)) (s : S) : Res Val := match o with
  | some (some v) => .ok v s
  | _ => .bad
@[simp] theorem nameF_eq (i : Nat) (st : S) : nameF i st = getV st.r[i]? st := by
  unfold nameF getV; split <;> simp_all
@[simp] theorem getV_some (v : Val) (s : S) : getV (some (some v)) s = .ok v s := rfl

/-! ### values -/
@[simp] theorem intOf_int (i : Int) : intOf (.d (.int i)) = some i := rfl
@[simp] theorem addO_int (i j : Int) (cs : List Cell) : addO (.d (.int i)) (.d (.int j)) cs = some (.d (.int (i + j))) := rfl
@[simp] theorem addO_tup (a b : List D) (cs : List Cell) : addO (.d (.tup a)) (.d (.tup b)) cs = if sz (a.length + b.length) = true then some (.d (.tup (a ++ b))) else none := rfl
@[simp] theorem addO_str (a b : Str) (cs : List Cell) : addO (.d (.str a)) (.d (.str b)) cs = if sz (a.length + b.length) = true then some (.d (.str (a ++ b))) else none := rfl
@[simp] theorem ii_int (c : Int → Int → Bool) (g : Int → Int → D) (i j : Int) (cs : List Cell) : ii c g (.d (.int i)) (.d (.int j)) cs = if c i j = true then some (.d (g i j)) else none := rfl
@[simp] theorem yes_eq (i j : Int) : yes i j = true := rfl
@[simp] theorem negI_int (i : Int) (cs : List Cell) : negI (.d (.int i)) cs = some (.d (.int (-i))) := rfl
@[simp] theorem atI_nat' {α : Type} (xs : List α) (k : Nat) : L2.atI xs (k : Int) = xs[k]? := by
  unfold L2.atI L2.ixN
  rw [if_pos (by omega)]
  by_cases h : k < xs.length
  · rw [if_pos (by omega)]; simp
  · rw [if_neg (by omega)]; simp [List.getElem?_eq_none (Nat.le_of_not_lt h)]
@[simp] theorem atI_lit {α : Type} (xs : List α) (k : Nat) : L2.atI xs (no_index (@OfNat.ofNat Int k _)) = xs[k]? := atI_nat' xs k
@[simp] theorem atI_zero {α : Type} (xs : List α) : L2.atI xs 0 = xs[0]? := atI_nat' xs 0
@[simp] theorem atI_one {α : Type} (xs : List α) : L2.atI xs 1 = xs[1]? := atI_nat' xs 1
theorem atI_of {α : Type} {xs : List α} {i : Int} {k : Nat} (h : i = k) : L2.atI xs i = xs[k]? := by rw [h, atI_nat']
@[simp] theorem ixN_nat (n k : Nat) : L2.ixN n (k : Int) = if k < n then some k else none := by
  unfold L2.ixN
  rw [if_pos (by omega)]
  by_cases h : k < n
  · rw [if_pos (by omega), if_pos h]; simp
  · rw [if_neg (by omega), if_neg h]
@[simp] theorem ixN_zero (n : Nat) : L2.ixN n 0 = if 0 < n then some 0 else none := ixN_nat n 0
@[simp] theorem ixN_one (n : Nat) : L2.ixN n 1 = if 1 < n then some 1 else none := ixN_nat n 1
@[simp] theorem ixO_lst (ds : List D) (i : Int) (cs : List Cell) : ixO (.d (.lst ds)) (.d (.int i)) cs = (L2.atI ds i).map .d := rfl
@[simp] theorem ixO_tup (ds : List D) (i : Int) (cs : List Cell) : ixO (.d (.tup ds)) (.d (.int i)) cs = (L2.atI ds i).map .d := rfl
@[simp] theorem ixO_scr (ds : List D) (i : Int) (cs : List Cell) : ixO (.d (.scr ds)) (.d (.int i)) cs = (L2.atI ds i).map .d := rfl
def ixC (c : Option Cell) (i : Int) : Option Val := match c with
  | some (.lst ds) => (L2.atI ds i).map .d
  | some (.nst js) => (L2.atI js i).map .rf
  | _ => none
@[simp] theorem ixO_rf (j : Nat) (i : Int) (cs : List Cell) : ixO (.rf j) (.d (.int i)) cs = ixC cs[j]? i := by
  unfold ixO ixC; simp only [intOf_int]
  all_goals first | rfl | (cases cs[j]? <;> first | rfl | (rename_i c; cases c <;> rfl))
@[simp] theorem ixC_lst (ds : List D) (i : Int) : ixC (some (.lst ds)) i = (L2.atI ds i).map .d := rfl
@[simp] theorem ixC_nst (js : List Nat) (i : Int) : ixC (some (.nst js)) i = (L2.atI js i).map .rf := rfl
@[simp] theorem listOf_lst (ds : List D) (cs : List Cell) : FL.listOf (.d (.lst ds)) cs = some ds := rfl
@[simp] theorem listOf_tup (ds : List D) (cs : List Cell) : FL.listOf (.d (.tup ds)) cs = some ds := rfl
@[simp] theorem listOf_scr (ds : List D) (cs : List Cell) : FL.listOf (.d (.scr ds)) cs = some ds := rfl
def lsC (c : Option Cell) : Option (List D) := match c with
  | some (.lst ds) => some ds
  | _ => none
@[simp] theorem listOf_rf (j : Nat) (cs : List Cell) : FL.listOf (.rf j) cs = lsC cs[j]? := by
  unfold FL.listOf lsC
  rfl
@[simp] theorem lsC_lst (ds : List D) : lsC (some (.lst ds)) = some ds := rfl
def lenS (o : Option (List D)) (x : Val) : Option Val := match o with
  | some ds => some (.d (.int ds.length))
  | none => match x with
    | .d (.str z) => if sz z.length = true then some (.d (.int z.length)) else none
    | _ => none
@[simp] theorem lenO_eq (x : Val) (cs : List Cell) : lenO [x] cs = lenS (FL.listOf x cs) x := by
  unfold lenO lenS; rfl
@[simp] theorem lenS_some (ds : List D) (x : Val) : lenS (some ds) x = some (.d (.int ds.length)) := rfl
@[simp] theorem lenO_str (z : Str) (cs : List Cell) : lenO [.d (.str z)] cs = if sz z.length = true then some (.d (.int z.length)) else none := rfl
@[simp] theorem intO_int (i : Int) (cs : List Cell) : intO [.d (.int i)] cs = some (.d (.int i)) := rfl
@[simp] theorem intO_bl (b : Bool) (cs : List Cell) : intO [.d (.bl b)] cs = some (.d (.int (if b = true then 1 else 0))) := rfl
@[simp] theorem absO_int (i : Int) (cs : List Cell) : absO [.d (.int i)] cs = some (.d (.int (if i < 0 then -i else i))) := rfl
def setC (c : Option Cell) (j : Nat) (k : Int) (x : D) (cs : List Cell) : Option (List Cell) := match c with
  | some (.lst ds) => (ixN ds.length k).map fun m => cs.set j (.lst (ds.set m x))
  | _ => none
@[simp] theorem setI_eq (j : Nat) (k : Int) (x : D) (cs : List Cell) : setI (.rf j) (.d (.int k)) (.d x) cs = setC cs[j]? j k x cs := by
  unfold setI setC; simp only [intOf_int]
  all_goals first | rfl | (cases cs[j]? <;> first | rfl | (rename_i c; cases c <;> rfl))
@[simp] theorem setC_lst (ds : List D) (j : Nat) (k : Int) (x : D) (cs : List Cell) : setC (some (.lst ds)) j k x cs = (ixN ds.length k).map fun m => cs.set j (.lst (ds.set m x)) := rfl
def appC (c : Option Cell) (j : Nat) (x : D) (cs : List Cell) : Option (Val × List Cell) := match c with
  | some (.lst ds) => if sz (ds.length + 1) = true then some (.d .non, cs.set j (.lst (ds ++ [x]))) else none
  | _ => none
@[simp] theorem appO_eq (j : Nat) (x : D) (cs : List Cell) : appO (.rf j) [.d x] cs = appC cs[j]? j x cs := rfl
@[simp] theorem appC_lst (ds : List D) (j : Nat) (x : D) (cs : List Cell) : appC (some (.lst ds)) j x cs = if sz (ds.length + 1) = true then some (.d .non, cs.set j (.lst (ds ++ [x]))) else none := rfl
def isLC (c : Option Cell) : Bool := match c with
  | some (.lst _) => true
  | some (.nst _) => true
  | _ => false
@[simp] theorem isL_rf (j : Nat) (cs : List Cell) : isL (.rf j) cs = isLC cs[j]? := rfl
@[simp] theorem isLC_lst (ds : List D) : isLC (some (.lst ds)) = true := rfl
@[simp] theorem isL_lst (ds : List D) (cs : List Cell) : isL (.d (.lst ds)) cs = true := rfl
@[simp] theorem isS_str (x : Str) (cs : List Cell) : isS (.d (.str x)) cs = true := rfl
@[simp] theorem cMod_eq (i j : Int) : cMod i j = decide (0 < j) := rfl
@[simp] theorem cShr_eq (i j : Int) : cShr i j = decide (0 ≤ j) := rfl
@[simp] theorem dvI_lit (i : Int) (n : Nat) : dvI i (no_index (@OfNat.ofNat Int n _)) = i / (@OfNat.ofNat Int n _) := if_pos (Int.natCast_nonneg n)
theorem dvI_pos {i j : Int} (h : 0 ≤ j) : dvI i j = i / j := if_pos h
theorem cDiv_of {i j : Int} {n : Nat} (h0 : j ≠ 0) (h : j.natAbs < 2 ^ n) (hn : n ≤ 9000) : cDiv i j = true := by
  refine decide_eq_true ⟨h0, ?_⟩
  have : j.natAbs.log2 < n := (Nat.log2_lt (by omega)).mpr h
  omega
theorem cDiv_small {i j : Int} (h0 : 0 < j) (h : j < 2 ^ 64) : cDiv i j = true := cDiv_of (n := 64) (by omega) (by omega) (by decide)
@[simp] theorem cDiv_lit (i : Int) (n : Nat) (h : 0 < n) (h2 : n < 18446744073709551616) : cDiv i (no_index (@OfNat.ofNat Int n _)) = true := cDiv_small (by show (0 : Int) < (n : Int); omega) (by show (n : Int) < 2 ^ 64; omega)
@[simp] theorem cMul_lit (i : Int) (n : Nat) (h : n < 18446744073709551616) : cMul i (no_index (@OfNat.ofNat Int n _)) = true := by
  unfold cMul
  have : decide ((@OfNat.ofNat Int n _ : Int).natAbs < 18446744073709551616) = true := decide_eq_true (by show ((n : Int)).natAbs < _; omega)
  rw [this]; simp
@[simp] theorem cMul_litL (i : Int) (n : Nat) (h : n < 18446744073709551616) : cMul (no_index (@OfNat.ofNat Int n _)) i = true := by
  unfold cMul
  have : decide ((@OfNat.ofNat Int n _ : Int).natAbs < 18446744073709551616) = true := decide_eq_true (by show ((n : Int)).natAbs < _; omega)
  rw [this]; simp
@[simp] theorem cMul_modL (a j : Int) (n : Nat) (h : 0 < n) (h2 : n < 18446744073709551616) : cMul (a % (no_index (@OfNat.ofNat Int n _))) j = true := by
  unfold cMul
  have h3 : (0 : Int) < (n : Int) := by omega
  have e1 := Int.emod_nonneg a (b := (n : Int)) (by omega)
  have e2 := Int.emod_lt_of_pos a h3
  have : decide ((a % (@OfNat.ofNat Int n _ : Int)).natAbs < 18446744073709551616) = true := decide_eq_true (by show (a % (n : Int)).natAbs < _; omega)
  rw [this]; rfl
@[simp] theorem cPow_lit (a b : Nat) (h : a < 1000) (h2 : b ≤ 1000) : cPow (no_index (@OfNat.ofNat Int a _)) (no_index (@OfNat.ofNat Int b _)) = true := decide_eq_true (p := (0 : Int) ≤ (b : Int) ∧ (b : Int) ≤ 1000 ∧ ((a : Int)).natAbs < 1000) ⟨by omega, by omega, by omega⟩
theorem cPow_of {i j : Int} (h : i.natAbs < 1000) (h0 : 0 ≤ j) (h1 : j ≤ 1000) : cPow i j = true := decide_eq_true ⟨h0, h1, h⟩
@[simp] theorem cMul_neg (i : Int) (n : Nat) (h : n < 18446744073709551616) : cMul i (-(no_index (@OfNat.ofNat Int n _))) = true := by
  unfold cMul
  have : decide ((-(@OfNat.ofNat Int n _ : Int)).natAbs < 18446744073709551616) = true := decide_eq_true (by show (-(n : Int)).natAbs < _; omega)
  rw [this]; simp
theorem cMul_left {i j : Int} (h : i.natAbs < 18446744073709551616) : cMul i j = true := by
  unfold cMul; rw [decide_eq_true h]; rfl
theorem cMul_right {i j : Int} (h : j.natAbs < 18446744073709551616) : cMul i j = true := by
  unfold cMul; rw [decide_eq_true h]; simp
theorem cMul_of {i j : Int} {a b : Nat} (hi : i.natAbs < 2 ^ a) (hj : j.natAbs < 2 ^ b) (h : a + b < 1000000) : cMul i j = true := by
  have h1 : i.natAbs.log2 ≤ a := by
    by_cases z : i.natAbs = 0
    · rw [z]; exact Nat.zero_le _
    · exact Nat.le_of_lt ((Nat.log2_lt z).mpr hi)
  have h2 : j.natAbs.log2 ≤ b := by
    by_cases z : j.natAbs = 0
    · rw [z]; exact Nat.zero_le _
    · exact Nat.le_of_lt ((Nat.log2_lt z).mpr hj)
  unfold cMul
  rw [decide_eq_true (show i.natAbs.log2 + j.natAbs.log2 < 1000000 by omega)]; simp
/-! ### bodies -/
def outR (n : Nat) (r : SRes) : FRes := match r with
  | .nx s => outV n (.d .non) s.c
  | .ret v s => outV n v s.c
  | .exc x s => .exc x (s.c.take n)
  | _ => .bad
theorem fnF_eq (m : Nat) (g : S → SRes) (ds : List Val) (cs : List Cell) : fnF m g ds cs = outR cs.length (g ⟨r0 m ds, cs⟩) := rfl
@[simp] theorem outR_nx (n : Nat) (s : S) : outR n (.nx s) = .ok (.d .non) (s.c.take n) := rfl
@[simp] theorem outR_retd (n : Nat) (x : D) (s : S) : outR n (.ret (.d x) s) = .ok (.d x) (s.c.take n) := rfl
@[simp] theorem outR_ret (n : Nat) (v : Val) (s : S) : outR n (.ret v s) = outV n v s.c := rfl
@[simp] theorem outR_exc (n : Nat) (x : Exn) (s : S) : outR n (.exc x s) = .exc x (s.c.take n) := rfl
@[simp] theorem outV_d (n : Nat) (x : D) (c : List Cell) : outV n (.d x) c = .ok (.d x) (c.take n) := rfl
@[simp] theorem take_set_length {α : Type} (l : List α) (i : Nat) (x : α) : (l.set i x).take l.length = l.set i x := by
  rw [List.take_of_length_le]; simp
@[simp] theorem take_append_length {α : Type} (l m : List α) : (l ++ m).take l.length = l := by simp
@[simp] theorem take_set_append_length {α : Type} (l m : List α) (i : Nat) (x : α) : (l.set i x ++ m).take l.length = l.set i x := by
  rw [List.take_append_of_le_length (by simp), take_set_length]
end
end FL

set_option Elab.async false
set_option linter.all false
set_option maxRecDepth 100000
set_option maxHeartbeats 4000000
namespace FL
open PySem PySem.Spec PyProof.Rows L2

/-! ### another held exception -/
def Gx.hold (G : Gx) (e : Option Exi) : Gx := ⟨G.K, G.cl, e⟩
mutual
theorem Rep.hold {G : Gx} {H : Hp} (e : Option Exi) : ∀ {v : V} {d : D}, Rep G H v d → Rep (G.hold e) H v d
  | _, _, .non => .non
  | _, _, .bl b => .bl b
  | _, _, .int i => .int i
  | _, _, .str x => .str x
  | _, _, .ty n => .ty n
  | _, _, .cl C => .cl C
  | _, _, .tup h r => .tup h (RepL.hold e r)
  | _, _, .lst h r => .lst h (RepL.hold e r)
  | _, _, .scr h r => .scr h (RepL.hold e r)
  | _, _, .ins h k r => .ins h k (RepL.hold e r)
theorem RepL.hold {G : Gx} {H : Hp} (e : Option Exi) : ∀ {vs : List V} {ds : List D}, RepL G H vs ds → RepL (G.hold e) H vs ds
  | _, _, .nil => .nil
  | _, _, .cons a b => .cons (Rep.hold e a) (RepL.hold e b)
end
theorem RepV.hold {G : Gx} {w : Wd} {v : V} {x : Val} (e : Option Exi) (h : RepV G w v x) : RepV (G.hold e) w v x := by
  cases x with
  | d x => exact Rep.hold e h
  | rf i => exact h
theorem CellOk.hold {G : Gx} {w : Wd} {H : Hp} {i : Nat} {a : Addr} {c : Cell} (e : Option Exi) (h : CellOk G w H i a c) : CellOk (G.hold e) w H i a c := by
  cases c with
  | dead => exact h
  | lst ds => obtain ⟨h0, us, h1, h2⟩ := h; exact ⟨h0, us, h1, h2.hold e⟩
  | nst js => exact h
  | ins C fs => obtain ⟨h0, dx, us, h1, h2, h3⟩ := h; exact ⟨h0, dx, us, h1, h2, h3.hold e⟩
  | dic kvs =>
    obtain ⟨h0, ⟨us, h1, h2, h3⟩ | ⟨us, h1, h2, h3⟩⟩ := h
    · exact ⟨h0, .inl ⟨us, h1, h2, h3.hold e⟩⟩
    · exact ⟨h0, .inr ⟨us, h1, h2, h3.hold e⟩⟩
theorem RelC.hold {G : Gx} {w : Wd} {cs : List Cell} {H : Hp} (e : Option Exi) (h : RelC G w cs H) : RelC (G.hold e) w cs H :=
  ⟨h.len, h.nd, h.ex, fun i a c x y => (h.ok i a c x y).hold e⟩
theorem XRep.hold {G : Gx} {w : Wd} {cls : Value} {dd : Option Addr} {x : Exn} (e : Option Exi) (h : XRep G w cls dd x) : XRep (G.hold e) w cls dd x := by
  obtain ⟨p, us, e1, h1, h2⟩ := h.dict
  exact ⟨h.cls, p, us, e1, h1, fun f d q => by obtain ⟨v, a, b⟩ := h2 f d q; exact ⟨v, a, b.hold e⟩⟩
theorem RelV.hold {G : Gx} {w : Wd} {r : List (Option Val)} {σ : L2.St} (e : Option Exi) (h : RelV G w r σ) (hx : ExOk (G.hold e) w σ) : RelV (G.hold e) w r σ :=
  ⟨h.len, fun i d q => by obtain ⟨v, e2, r⟩ := h.ok i d q; exact ⟨v, e2, r.hold e⟩, hx⟩

/-! ### raise -/
/-- an exception class: its one __init__ keeps its parameters as fields -/
structure ErrC (K : PySem.W.Frag) (C : Addr) : Prop where
  o : OexC K C
  xf : XfC K C
/-- the spec of such an __init__ -/
def spX (C : Addr) (fs : List Str) : Sp := fun vs H Q _ => ∃ (a : Addr) (us : List V), vs = .ref a :: us ∧ us.length = fs.length ∧ H a = some (exo a C none) ∧
  ∀ (dx : Addr) (ps : List (Str × V)), H dx = none → dx ≠ a → (∀ (i : Nat) (f : Str) (u : V), fs[i]? = some f → us[i]? = some u → ps.lookup f = some u) → Q .non (upd (upd H dx (exd dx ps)) a (exo a C (some dx)))
section
variable {P : Program} {w : World} {K : PySem.W.Frag} {mg : Str → Option Value} {base : Heap}
/-- self.x = x, one field -/
theorem xi_one {x qual : Str} {st : Stmt} {f C : Addr} {fd : FuncData} {fl pa : Str} {p1 p2 p3 p4 : Pos} (F : Fun K x qual st f fd) (Sc : FnScope ["self", pa] ["self", pa] (defScope st)) (hb : defBody st = [.Assign [.Attribute (.Name "self" p1) fl p2] (.Name pa p3) p4])
    (T : OexC K C) (hno : PySem.W.findIn K (.ref C) fl = some none) (hd : (pa == ("__debug__" : Str)) = false := by decide) (hcd : (pa == ("__classdict__" : Str)) = false := by decide)
    (hl : (defScope st).names.lookup pa = some .local := by rfl) (hl2 : (defScope st).names.lookup ("self" : Str) = some .local := by rfl) : FnOk P w K mg base (L2.CX P w) 1 f fd ["self", pa] (spX C [fl]) := by
  refine F.okX Sc (fun vs H Q E ⟨a, us, e, hl, _⟩ => by rw [e]; simp [hl]) (fun cdv A outer s H vs Q E hr ⟨a, us, e, hlen, ha, q⟩ => ?_)
  rw [hb]
  refine ⟨_, pss_one (ps_ost (pe_var (i := 0) rfl (.inl hl2) (by decide) (by decide)) (pe_var (i := 1) rfl (.inl hl) hd hcd)), ?_⟩
  subst e
  match us, hlen with
  | [u], hlen =>
    refine ⟨u, rfl, .ref a, rfl, a, C, rfl, T, hno, .inl ⟨ha, fun dx hdx ne => q dx [(fl, u)] hdx ne fun i f v e1 e2 => ?_⟩⟩
    match i, e1, e2 with
    | 0, e1, e2 => cases e1; cases e2; simp [List.lookup]
/-- .. two fields -/
theorem xi_two {x qual : Str} {st : Stmt} {f C : Addr} {fd : FuncData} {fl pa fm pb : Str} {p1 p2 p3 p4 q1 q2 q3 q4 : Pos} (F : Fun K x qual st f fd) (Sc : FnScope ["self", pa, pb] ["self", pa, pb] (defScope st))
    (hb : defBody st = [.Assign [.Attribute (.Name "self" p1) fl p2] (.Name pa p3) p4, .Assign [.Attribute (.Name "self" q1) fm q2] (.Name pb q3) q4])
    (T : OexC K C) (hno : PySem.W.findIn K (.ref C) fl = some none) (hno2 : PySem.W.findIn K (.ref C) fm = some none) (hne : fl ≠ fm := by decide) (hd : (pa == ("__debug__" : Str)) = false := by decide) (hcd : (pa == ("__classdict__" : Str)) = false := by decide) (hd2 : (pb == ("__debug__" : Str)) = false := by decide) (hcd2 : (pb == ("__classdict__" : Str)) = false := by decide)
    (hl : (defScope st).names.lookup pa = some .local := by rfl) (hlb : (defScope st).names.lookup pb = some .local := by rfl) (hl2 : (defScope st).names.lookup ("self" : Str) = some .local := by rfl) : FnOk P w K mg base (L2.CX P w) 1 f fd ["self", pa, pb] (spX C [fl, fm]) := by
  refine F.okX Sc (fun vs H Q E ⟨a, us, e, hl, _⟩ => by rw [e]; simp [hl]) (fun cdv A outer s H vs Q E hr ⟨a, us, e, hlen, ha, q⟩ => ?_)
  rw [hb]
  refine ⟨_, pss_cons (ps_ost (pe_var (i := 0) rfl (.inl hl2) (by decide) (by decide)) (pe_var (i := 1) rfl (.inl hl) hd hcd)) (pss_one (ps_ost (pe_var (i := 0) rfl (.inl hl2) (by decide) (by decide)) (pe_var (i := 2) rfl (.inl hlb) hd2 hcd2))), ?_⟩
  subst e
  match us, hlen with
  | [u, v], hlen =>
    refine ⟨u, rfl, .ref a, rfl, a, C, rfl, T, hno, .inl ⟨ha, fun dx hdx ne => ⟨v, rfl, .ref a, rfl, a, C, rfl, T, hno2, .inr ⟨dx, [(fl, u)], upd_same, by rw [upd_ne ne, upd_same], by simp, ?_⟩⟩⟩⟩
    have e : upd (upd (upd H dx (exd dx [(fl, u)])) a (exo a C (some dx))) dx (exd dx [(fm, v), (fl, u)]) = upd (upd H dx (exd dx [(fm, v), (fl, u)])) a (exo a C (some dx)) := by
      funext b
      by_cases h1 : b = dx
      · subst h1; rw [upd_same, upd_ne ne, upd_same]
      · rw [upd_ne h1]
        by_cases h2 : b = a
        · subst h2; rw [upd_same, upd_same]
        · rw [upd_ne h2, upd_ne h2, upd_ne h1, upd_ne h1]
    show (_ : Prop)
    have := q dx [(fm, v), (fl, u)] hdx ne fun i f z e1 e2 => by
      match i, e1, e2 with
      | 0, e1, e2 =>
        cases e1; cases e2
        have : (fl == fm) = false := by simpa using hne
        simp [List.lookup, this]
      | 1, e1, e2 => cases e1; cases e2; simp [List.lookup]
    rw [← e] at this
    exact this
end
def raiseS (C : Nat) (fs : List Str) (g : S → Res (List Val)) : S → SRes := fun st => bindS (g st) fun xs s => bindS (optR (pureD xs) s) fun ds s => if ds.length = fs.length then .exc ⟨C, fs.zip ds⟩ s else .bad
theorem lookup_zip_ix {α : Type} : ∀ {fs : List Str} {ds : List α} {f : Str} {d : α}, (fs.zip ds).lookup f = some d → ∃ i : Nat, fs[i]? = some f ∧ ds[i]? = some d
  | [], _, _, _, h => by simp at h
  | _ :: _, [], _, _, h => by simp at h
  | g :: fs, e :: ds, f, d, h => by
    rw [List.zip_cons_cons] at h
    by_cases hf : f = g
    · subst hf
      simp [List.lookup] at h
      exact ⟨0, rfl, by simp [h]⟩
    · have hb : (f == g) = false := by simpa using hf
      simp [List.lookup, hb] at h
      obtain ⟨i, h1, h2⟩ := lookup_zip_ix h
      exact ⟨i + 1, by simpa using h1, by simpa using h2⟩
section
variable {X : Cx} {G : Gx} {W : WX} {k : Nat}
theorem sf_raise {C : Nat} {fs : List Str} {x : Str} {fI : Addr} {fd : FuncData} {ps : List Str} {g : S → Res (List Val)} {e : Expr} {es : List Expr} {p pos rpos : Pos} (Cc : Fx X G W k) (T : OexC X.K (G.cl C)) (iC : PySem.W.findIn X.K (.ref (G.cl C)) "__init__" = some (some (.ref fI))) (tI : PySem.W.typeIn X.K (.ref fI) = some (.type "function"))
    (F1 : FnOk X.prog X.w X.K X.mg X.base (L2.CX X.prog X.w) 1 fI fd ps (spX (G.cl C) fs)) (hj : 2 ≤ k) (hb : Binds X.K fd ps []) (hg : Gl X x) (hm : X.mg x = some (.ref (G.cl C))) (ha : AF X G W (e :: es) g) (hfs : fs.length ≤ 900 := by decide)
    (hdb : (x == ("__debug__" : Str)) = false := by decide) (he : starEach (e :: es) X.env = (false, eval e X.env) :: starEach es X.env := by rfl) (hpl : (backTo pos (starEach es X.env)).any (·.1) = false := by rfl) :
    SF X G W (.Raise (some (.Call (.Name x p) (e :: es) [] pos)) none rpos) (raiseS C fs g) :=
  (ps_raise Cc.calm Cc.tk (pmk_oex (dvs := []) T iC tI F1 (Cc.hr.mono hj) hb .nil (fun pins σ H s e' s' I c => Cc.tk e' s' (XE.of_call (E := fun _ _ _ => False) I (fun _ _ _ h => h.elim) c)) hg hm ha hdb he hpl)).imp fun D σ H ⟨w, st, R, q⟩ => by
    refine ⟨w, st, R, PostS.bindE (D := D) (f := fun xs s => bindS (optR (pureD xs) s) fun ds s => if ds.length = fs.length then .exc ⟨C, fs.zip ds⟩ s else .bad) q fun w1 H1 s1 xs _ R1 q1 vs rvs => ?_⟩
    cases ep : pureD xs with
    | none => rw [ep] at q1; exact q1.elim
    | some ds =>
      rw [ep] at q1
      have rl := pureD_rep rvs ep
      have q2 : PostS G W D w1 (if ds.length = fs.length then .exc ⟨C, fs.zip ds⟩ s1 else .bad) := q1
      by_cases hl : ds.length = fs.length
      · rw [if_pos hl] at q2
        have hvl : vs.length = fs.length := rl.length.trans hl
        refine ⟨by omega, fun a hna => ⟨a, vs, by rw [List.append_nil], hvl, upd_same, fun dx ps hdx ne hps => ⟨rfl, dx, ps, upd_same, by rw [upd_ne ne, upd_same], by rw [upd_ne ne] at hdx; exact hdx, ?_⟩⟩⟩
        rw [upd_ne ne] at hdx
        have e : upd (del (upd (upd (upd H1 a (exo a (G.cl C) none)) dx (exd dx ps)) a (exo a (G.cl C) (some dx))) a) dx (.xd ps) = upd H1 dx (.xd ps) := by
          funext b
          by_cases h1 : b = dx
          · subst h1; rw [upd_same, upd_same]
          · rw [upd_ne h1, upd_ne h1]
            by_cases h2 : b = a
            · subst h2; rw [del_same]; exact hna.symm
            · rw [del_ne h2, upd_ne h2, upd_ne h1, upd_ne h2]
        rw [e]
        have hs := R1.c.fresh hdx
        have l : w1.le ⟨w1.as, upd w1.Hs dx (.xd ps)⟩ := Wd.le.grow hs
        refine q2 ⟨w1.as, upd w1.Hs dx (.xd ps)⟩ σ _ _ _ l ⟨R1.v.mono l, R1.c.grow hdx hs⟩ ⟨rfl, dx, ps, rfl, upd_same, fun f d hf => ?_⟩
        obtain ⟨i, i1, i2⟩ := lookup_zip_ix hf
        obtain ⟨v, j1, j2⟩ := rl.get i2
        exact ⟨v, hps i f v i1 j1, j2.mono l.hs⟩
      · rw [if_neg hl] at q2; exact q2.elim
end
end FL

set_option Elab.async false
set_option linter.all false
set_option maxRecDepth 100000
set_option maxHeartbeats 4000000
namespace FL
open PySem PySem.Spec PyProof.Rows L2

/-! ### try with several clauses, each with or without a name -/
abbrev ClT := Addr → Value → Option Addr → TS
def endsO (o : Option Nat) (D : Ends) : Ends := match o with
  | none => D
  | some i => { nx := fun σ H => D.nx (σ.set i none) H, rt := D.rt, bk := fun σ H => D.bk (σ.set i none) H, ct := fun σ H => D.ct (σ.set i none) H }
def setO (o : Option Nat) (σ : L2.St) (a : Addr) : L2.St := match o with
  | none => σ
  | some i => σ.set i (some (.ref a))
def wCl (K : PySem.W.Frag) (Wout : WX) (D : Ends) : List (Value × Option Nat × ClT) → WX
  | [] => Wout
  | (c, o, ts) :: r => fun cls d σ H => ∃ b, PySem.W.exmOne K cls c = some b ∧ (b = true → ∀ a, H a = none → ts a cls d (endsO o D) (setO o σ a) H) ∧ (b = false → wCl K Wout D r cls d σ H)
def NmOk (X : Cx) : Option Str → Option Nat → Prop
  | none, none => True
  | some n, some i => X.N[i]? = some n ∧ X.env.kindOf n = some .local
  | _, _ => False
inductive ClsOk (X : Cx) : List ExceptHandler → List (Value × Option Nat × ClT) → Prop
  | nil : ClsOk X [] []
  | cons {x : Str} {c : Value} {ts : ClT} {on : Option Str} {o : Option Nat} {b0 : Stmt} {suite : List Stmt} {np p : Pos} {hds : List ExceptHandler} {l : List (Value × Option Nat × ClT)} (hc : Names X x c) (hn : NmOk X on o)
      (hsu : ∀ (a : Addr) (oe : Obj) (cls : Value) (d : Option Addr) (pn : List (Addr × Obj)), Zc cls d oe → (∃ vs, oe.data = .fields vs) → PSs (X.suite a ((a, oe) :: pn)) (b0 :: suite) (ts a cls d)) (r : ClsOk X hds l) :
      ClsOk X (.ExceptHandler (some (.Name x np)) on (b0 :: suite) p :: hds) ((c, o, ts) :: l)
section
variable {X : Cx} {body : List Stmt} {h0 : ExceptHandler} {hds : List ExceptHandler} {l : List (Value × Option Nat × ClT)} {pos : Pos} {tb : WX → TS} {Wout : WX}
theorem ps_tryC (hs : X.stack = X.env :: X.outer) (hf : X.env.frame = some X.env.locals) (hN : X.N.Nodup) (tk : Takes X Wout)
    (hb : ∀ (W : WX) (pn : List (Addr × Obj)) (xe : Value → Shared → Prop), Takes (X.tr pn xe) W → PassesOwn (model X.prog X.w) X.A X.env xe → PSs (X.tr pn xe) body (tb W))
    (hh : ClsOk X (h0 :: hds) l) : PS X (.Try body (h0 :: hds) [] [] pos) (fun D σ H => tb (wCl X.K Wout D l) D σ H) := by
  constructor
  intro pins s σ H D I h
  have ok := I.ok
  have hfr : X.A.frames = some (X.env :: X.outer) := by rw [ok.frames, hs]
  apply wpAny_Try_except
  refine wpAny_mono ((hb (wCl X.K Wout D l) (X.pn ++ pins) (fun e t1 => wpAny (model X.prog X.w) X.A (noteFrame e X.env) (fun _ t2 => wpAny (model X.prog X.w) X.A (setFlight e none) (fun _ t3 =>
    wpAny (model X.prog X.w) X.A (handleBy e X.env (h0 :: hds)) (SP X pins D) X.xe t3) X.xe t2) X.xe t1) (fun u t xx => ?_) PassesOwn.looking).run [] s σ H D (I.toTry _) h) (fun f t hsp => ?_) (fun e t he => he)
  · obtain ⟨a, B, sI, pins', σ1, H1, cls, d, rfl, J0, nb, up, sky, na, os, ag, w⟩ := xx
    have J : Inv X pins σ1 H1 sI := J0.ofTry ok
    rw [show (X.tr (X.pn ++ pins) _).stack = X.env :: X.outer from hs] at sky
    show wpAny (model X.prog X.w) X.A (noteFrame (.ref a) X.env) _ _ _
    refine Sky.land Zc.steady hfr hf sky fun h3 fl3 up3 => ?_
    have J3 : Inv X pins σ1 H1 { t with heap := h3 } := J.landed nb fl3.1 (up.trans up3) os ag
    obtain ⟨oe3, vs3, he3, hz3, hd3⟩ := fl3.there
    have nfr : a ∉ frs (X.env :: X.outer) := fun hm => by
      obtain ⟨_, o', e', hnf⟩ := fl3.2.2.1.mem hm
      rw [he3] at e'
      cases e'
      exact hnf _ hd3
    have nL : a ≠ X.env.locals := fun z => nfr (List.mem_filterMap.mpr ⟨X.env, List.mem_cons_self, by rw [hf, z]⟩)
    have nF : a ∉ X.fs := fun hm => by
      obtain ⟨e, he, q⟩ := List.mem_filterMap.mp hm
      exact nfr (List.mem_filterMap.mpr ⟨e, List.mem_cons_of_mem _ he, q⟩)
    have S3 := J3.suite he3 hd3 na nL nF
    have go : ∀ {hd' : List ExceptHandler} {l' : List (Value × Option Nat × ClT)}, ClsOk X hd' l' → wCl X.K Wout D l' cls d σ1 H1 →
        wpAny (model X.prog X.w) X.A (handleBy (.ref a) X.env hd') (SP X pins D) X.xe { t with heap := h3 } := by
      intro hd' l' hk
      induction hk with
      | nil =>
        intro w
        apply wpAny_handleBy_nil
        obtain ⟨k1, k2, k3, oe, vs, T, oT, ts', he, hz, hd, h1, hr⟩ := id fl3
        unfold PySem.passOn
        refine wpAny_bind (wpAny_field he hd h1 ?_)
        rw [if_neg (show ¬ ((Value.ref T == Value.none) = true) from by simp)]
        have fin : wpAny (model X.prog X.w) X.A (setFlight (.ref a) X.env.frame) (fun _ t4 => wpAny (model X.prog X.w) X.A (throw (.ref a) : Sem Flow) (SP X pins D) X.xe t4) X.xe { t with heap := h3 } := by
          rw [hf]
          exact HandSPX.setFlight_upZ fl3 fun h4 hh4 up4 => wpAny_throw (tk _ _ ⟨a, B, sI, pins, σ1, H1, cls, d, rfl, J, nb, (up.trans up3).trans up4, .inr (.inr (by rw [hs]; exact hh4)), na, os, ag, w⟩)
        first
          | exact wpAny_bind (wpAny_pure (wpAny_bind fin))
          | exact wpAny_bind fin
      | @cons x c ts on o b0 suite np p hds2 l2 hc hn hsu r ih =>
        intro w
        obtain ⟨b, hb1, hyes, hno⟩ := w
        refine wpAny_handleBy_cons (codeAny_handlers_test ?_) (by intro q; cases q)
        have LT : PySem.W.Looks (model X.prog X.w) h3 (typeOf (.ref a)) cls := fun A Q E s k q => wpAny_typeOf_ref (k _ _ he3) (by rw [hz3.1]; exact q)
        have LM := PySem.W.exm_one (M := model X.prog X.w) (J3.kIn) LT hb1
        have test : ∀ {Q : Value → Shared → Prop} {E : Value → Shared → Prop}, Q c { t with heap := h3 } → wpAny (model X.prog X.w) (X.A.mark (some (.ref a))) (eval (.Name x np) X.env) Q E { t with heap := h3 } := fun {Q E} q => by
          obtain ⟨hg, hdbg, hm | ⟨hm, hv, hnn⟩⟩ := hc
          · exact ld_glob (X := X.suite a ((a, oe3) :: (X.pn ++ pins))) S3 hg hm q hdbg
          · exact ld_blt (X := X.suite a ((a, oe3) :: (X.pn ++ pins))) S3 hg hm hv q hnn hdbg
        refine test (LM.here ?_)
        cases b with
        | true =>
          cases on with
          | none =>
            cases o with
            | some i => exact False.elim hn
            | none =>
              apply codeAny_handlers_suite
              refine HandSPX.lands_againZ fl3 fun h4 fl4 up4 => ?_
              have J4 : Inv X pins σ1 H1 { t with heap := h4 } := J.landed nb fl4.1 ((up.trans up3).trans up4) os ag
              obtain ⟨oe4, vs4, he4, hz4, hd4⟩ := fl4.there
              refine wpAny_mono ((hsu a oe4 cls d (X.pn ++ pins) hz4 ⟨_, hd4⟩).run [] _ _ H1 _ (J4.suite he4 hd4 na nL nF) (hyes rfl a na)) (fun f s6 hsp => ?_) (fun _ _ z => False.elim z)
              cases f with
              | ret u => obtain ⟨v6, σ6, H6, S6, r6, q6⟩ := hsp; exact ⟨_, _, _, S6.unsuite ok, r6, q6⟩
              | next => obtain ⟨σ6, H6, S6, q6⟩ := hsp; exact ⟨_, _, S6.unsuite ok, q6⟩
              | brk => obtain ⟨σ6, H6, S6, q6⟩ := hsp; exact ⟨_, _, S6.unsuite ok, q6⟩
              | cont => obtain ⟨σ6, H6, S6, q6⟩ := hsp; exact ⟨_, _, S6.unsuite ok, q6⟩
          | some n =>
            cases o with
            | none => exact False.elim hn
            | some i =>
              obtain ⟨hi, hln⟩ := hn
              apply codeAny_handlers_suite_as
              refine HandSPX.lands_againZ fl3 fun h4 fl4 up4 => ?_
              have J4 : Inv X pins σ1 H1 { t with heap := h4 } := J.landed nb fl4.1 ((up.trans up3).trans up4) os ag
              obtain ⟨oe4, vs4, he4, hz4, hd4⟩ := fl4.there
              refine store_ok (X := X.suite a ((a, oe4) :: (X.pn ++ pins))) (v := .ref a) (J4.suite he4 hd4 na nL nF) hN hi (.inl hln) rfl (fun s5 S5 => ?_) (.inr hln)
              refine wpAny_mono ((hsu a oe4 cls d (X.pn ++ pins) hz4 ⟨_, hd4⟩).run [] s5 _ H1 _ S5 (hyes rfl a na)) (fun f s6 hsp => ?_) (fun _ _ z => False.elim z)
              have fin : ∀ {σ6 : L2.St} {H6 : Hp} {Q : Shared → Prop}, Inv (X.suite a ((a, oe4) :: (X.pn ++ pins))) [] σ6 H6 s6 → (∀ s7, Inv X pins (σ6.set i none) H6 s7 → Q s7) →
                  wpAny (model X.prog X.w) X.A (do bindName X.env n .none; unbindBehindTheSuite X.env n p) (fun _ s7 => Q s7) X.xe s6 := fun {σ6 H6 Q} S6 hq => gone_ok (S6.unsuite ok) hN hi hln hq
              cases f with
              | ret u => obtain ⟨v6, σ6, H6, S6, r6, q6⟩ := hsp; exact fin S6 fun s7 J7 => ⟨_, _, _, J7, r6, q6⟩
              | next => obtain ⟨σ6, H6, S6, q6⟩ := hsp; exact fin S6 fun s7 J7 => ⟨_, _, J7, q6⟩
              | brk => obtain ⟨σ6, H6, S6, q6⟩ := hsp; exact fin S6 fun s7 J7 => ⟨_, _, J7, q6⟩
              | cont => obtain ⟨σ6, H6, S6, q6⟩ := hsp; exact fin S6 fun s7 J7 => ⟨_, _, J7, q6⟩
        | false =>
          show wpAny _ X.A (handleBy (.ref a) X.env hds2) _ _ _
          exact ih (hno rfl)
    exact go hh w
  · cases f with
    | next => obtain ⟨σ1, H1, J1, q⟩ := hsp; exact wpAny_execs_nil ⟨σ1, H1, J1.ofTry ok, q⟩
    | brk => obtain ⟨σ1, H1, J1, q⟩ := hsp; exact ⟨σ1, H1, J1.ofTry ok, q⟩
    | cont => obtain ⟨σ1, H1, J1, q⟩ := hsp; exact ⟨σ1, H1, J1.ofTry ok, q⟩
    | ret u => obtain ⟨v, σ1, H1, J1, r, q⟩ := hsp; exact ⟨v, σ1, H1, J1.ofTry ok, r, q⟩
end

/-! ### .. as a function -/
/-- which exceptions a clause takes -/
abbrev Sub := Nat → Nat → Option Bool
def cleanS (i : Nat) (r : SRes) : SRes := match r with
  | .nx s => .nx ⟨s.r.set i none, s.c⟩
  | .ret v s => .ret v ⟨s.r.set i none, s.c⟩
  | .brk s => .brk ⟨s.r.set i none, s.c⟩
  | .ct s => .ct ⟨s.r.set i none, s.c⟩
  | .exc _ _ => .bad
  | .bad => .bad
def asS (i : Nat) (g : Exn → S → SRes) (x : Exn) (s : S) : SRes := if i < s.r.length then cleanS i (g x ⟨s.r.set i none, s.c⟩) else .bad
abbrev Cla := Nat × Option Nat × (Exn → S → SRes)
def clS (sub : Sub) : List Cla → Exn → S → SRes
  | [], x, s => .exc x s
  | (c, o, g) :: r, x, s => match sub x.C c with
    | some true => match o with
      | some i => asS i g x s
      | none => .bad
    | some false => clS sub r x s
    | none => .bad
def tryS (sub : Sub) (b : S → SRes) (l : List Cla) : S → SRes := fun st => match b st with
  | .exc x s => clS sub l x s
  | r => r
/-- what an exception class of the program says: for all ids below n -/
structure ErrF (K : PySem.W.Frag) (cl : Nat → Addr) (sub : Sub) : Prop where
  exm : ∀ c d b, sub c d = some b → PySem.W.exmOne K (.ref (cl c)) (.ref (cl d)) = some b
def clT (G : Gx) (i : Nat) (sub : Sub) (c : Nat) (g : Exn → S → SRes) : ClT := fun a cls d D σ H => ∃ x, sub x.C c = some true ∧ cls = .ref (G.cl x.C) ∧ tIS (G.hold (some ⟨i, a, cls, d, x⟩)) W0 (g x) D σ H
inductive SuOk (X : Cx) (G : Gx) (sub : Sub) : List ExceptHandler → List Cla → Prop
  | nil : SuOk X G sub [] []
  | cons {x n : Str} {c i : Nat} {g : Exn → S → SRes} {b0 : Stmt} {suite : List Stmt} {np p : Pos} {hds : List ExceptHandler} {l : List Cla} (hc : Names X x (.ref (G.cl c))) (hi : X.N[i]? = some n) (hln : X.env.kindOf n = some .local)
      (hsu : ∀ (a : Addr) (oe : Obj) (d : Option Addr) (x : Exn) (pn : List (Addr × Obj)), sub x.C c = some true → Zc (.ref (G.cl x.C)) d oe → (∃ vs, oe.data = .fields vs) → Fs (X.suite a ((a, oe) :: pn)) (G.hold (some ⟨i, a, .ref (G.cl x.C), d, x⟩)) W0 →
        SFs (X.suite a ((a, oe) :: pn)) (G.hold (some ⟨i, a, .ref (G.cl x.C), d, x⟩)) W0 (b0 :: suite) (g x)) (r : SuOk X G sub hds l) :
      SuOk X G sub (.ExceptHandler (some (.Name x np)) (some n) (b0 :: suite) p :: hds) ((c, some i, g) :: l)
section
variable {X : Cx} {G : Gx} {W : WX} {k : Nat}
def toCl (G : Gx) (sub : Sub) : List Cla → List (Value × Option Nat × ClT)
  | [] => []
  | (c, o, g) :: r => (.ref (G.cl c), o, clT G (o.getD 0) sub c g) :: toCl G sub r
theorem SuOk.cls {sub : Sub} (hK : X.K = G.K) (nd : X.N.Nodup) (hu : X.A.units + 64 < cLine) : ∀ {hds : List ExceptHandler} {l : List Cla}, SuOk X G sub hds l → ClsOk X hds (toCl G sub l)
  | _, _, .nil => .nil
  | _, _, .cons hc hi hln hsu r => .cons hc ⟨hi, hln⟩ (fun a oe cls d pn hz hf => ⟨fun pins s σ H D I ⟨x, hx, ec, q⟩ => by
      subst ec
      refine (hsu a oe d x pn hx hz hf ⟨hK, nd, hu, takes0, PassesOwn.never⟩).run pins s σ H D I q⟩) (SuOk.cls hK nd hu r)
theorem hold_hold (e f : Option Exi) : (G.hold e).hold f = G.hold f := rfl
theorem hold_id (h : G.ex = none) : G.hold none = G := by
  obtain ⟨K, cl, ex⟩ := G
  cases h; rfl
theorem Rel.hold {w : Wd} {st : S} {σ : L2.St} {H : Hp} (R : Rel G w st σ H) {i : Nat} {a : Addr} {cls : Value} {d : Option Addr} {x : Exn} (hx : XRep G w cls d x) (hi : i < σ.length) : Rel (G.hold (some ⟨i, a, cls, d, x⟩)) w ⟨st.r.set i none, st.c⟩ (σ.set i (some (.ref a))) H := by
  refine ⟨⟨by simp [R.v.len], fun j v e => ?_, ?_⟩, R.c.hold _⟩
  · by_cases hj : j = i
    · subst hj
      have e' : (st.r.set j none)[j]? = some (some v) := e
      have hl : j < st.r.length := by rw [R.v.len]; exact hi
      rw [List.getElem?_set_self hl] at e'; cases e'
    · have e' : (st.r.set i none)[j]? = some (some v) := e
      rw [List.getElem?_set_ne (Ne.symm hj)] at e' ⊢
      obtain ⟨u, h1, h2⟩ := R.v.ok j v e'
      exact ⟨u, h1, h2.hold _⟩
  · show _ ∧ _
    exact ⟨by rw [List.getElem?_set_self hi], hx.hold _⟩
theorem Rel.unhold {w : Wd} {st : S} {σ : L2.St} {H : Hp} {e : Option Exi} {i : Nat} (hG : G.ex = none) (R : Rel (G.hold e) w st σ H) : Rel G w ⟨st.r.set i none, st.c⟩ (σ.set i none) H := by
  have back : ∀ {v : V} {x : Val}, RepV (G.hold e) w v x → RepV G w v x := fun {v x} h => by have := h.hold (none : Option Exi); rwa [hold_hold, hold_id hG] at this
  refine ⟨⟨by simp [R.v.len], fun j v ej => ?_, .of_none hG⟩, ?_⟩
  · by_cases hj : j = i
    · subst hj
      have e' : (st.r.set j none)[j]? = some (some v) := ej
      have hl : j < st.r.length := by
        have := (List.getElem?_eq_some_iff.mp e').1
        simpa using this
      rw [List.getElem?_set_self hl] at e'; cases e'
    · have e' : (st.r.set i none)[j]? = some (some v) := ej
      rw [List.getElem?_set_ne (Ne.symm hj)] at e' ⊢
      obtain ⟨u, h1, h2⟩ := R.v.ok j v e'
      exact ⟨u, h1, back h2⟩
  · have := R.c.hold (none : Option Exi)
    rwa [hold_hold, hold_id hG] at this
theorem sf_try {sub : Sub} {body : List Stmt} {h0 : ExceptHandler} {hds : List ExceptHandler} {l : List Cla} {b : S → SRes} {pos : Pos} (C : Fx X G W k) (hG : G.ex = none) (EF : ErrF X.K G.cl sub) (hs : X.stack = X.env :: X.outer) (hf : X.env.frame = some X.env.locals)
    (hb : ∀ (W' : WX) (pn : List (Addr × Obj)) (xe : Value → Shared → Prop), Fx (X.tr pn xe) G W' k → SFs (X.tr pn xe) G W' body b)
    (hh : SuOk X G sub (h0 :: hds) l) : SF X G W (.Try body (h0 :: hds) [] [] pos) (tryS sub b l) :=
  (ps_tryC (Wout := W) hs hf C.nd C.tk (fun W' pn xe tk po => hb W' pn xe (.of C.K C.nd C.hr tk po C.calm)) (hh.cls C.K C.nd C.hu)).imp fun D σ H ⟨w, st, R, q⟩ => by
    refine ⟨w, st, R, ?_⟩
    have q0 : PostS G W D w (match b st with | .exc x s => clS sub l x s | r => r) := q
    cases eb : b st with
    | nx s => rw [eb] at q0; exact q0
    | ret v s => rw [eb] at q0; exact q0
    | brk s => rw [eb] at q0; exact q0
    | ct s => rw [eb] at q0; exact q0
    | bad => rw [eb] at q0; exact q0
    | exc x s =>
      rw [eb] at q0
      have q1 : PostS G W D w (clS sub l x s) := q0
      intro w1 σ1 H1 cls dd l1 R1 hx
      have ecls := hx.cls
      have key : ∀ {hds' : List ExceptHandler} {l : List Cla}, SuOk X G sub hds' l → PostS G W D w (clS sub l x s) → wCl X.K W D (toCl G sub l) cls dd σ1 H1 := by
        intro hds' l hh
        induction hh with
        | nil => exact fun q => q w1 σ1 H1 cls dd l1 R1 hx
        | @cons xn n c i g b0 suite np p hds l hc hi hln hsu r ih =>
          intro q
          have q2 : PostS G W D w (match sub x.C c with | some true => asS i g x s | some false => clS sub l x s | none => .bad) := q
          cases es : sub x.C c with
          | none => rw [es] at q2; exact q2.elim
          | some bb =>
            rw [es] at q2
            refine ⟨bb, by rw [ecls]; exact EF.exm _ _ _ es, fun hb a ha => ?_, fun hb => ?_⟩
            · subst hb
              have q3 : PostS G W D w (if i < s.r.length then cleanS i (g x ⟨s.r.set i none, s.c⟩) else .bad) := q2
              by_cases hil : i < s.r.length
              · rw [if_pos hil] at q3
                refine ⟨x, es, ecls, w1, _, R1.hold hx (by rw [← R1.v.len]; exact hil), ?_⟩
                have q4 := PostS.le q3 l1
                show PostS (G.hold (some ⟨i, a, cls, dd, x⟩)) W0 (endsO (some i) D) w1 (g x ⟨s.r.set i none, s.c⟩)
                cases eg : g x ⟨s.r.set i none, s.c⟩ with
                | nx s2 => rw [eg] at q4; exact fun w2 σ2 H2 l2 R2 => q4 w2 _ H2 l2 (Rel.unhold hG R2)
                | brk s2 => rw [eg] at q4; exact fun w2 σ2 H2 l2 R2 => q4 w2 _ H2 l2 (Rel.unhold hG R2)
                | ct s2 => rw [eg] at q4; exact fun w2 σ2 H2 l2 R2 => q4 w2 _ H2 l2 (Rel.unhold hG R2)
                | ret v s2 =>
                  rw [eg] at q4
                  exact fun w2 σ2 H2 u l2 R2 ru => q4 w2 _ H2 u l2 (Rel.unhold (i := i) hG R2) (by have := RepV.hold (none : Option Exi) ru; rwa [hold_hold, hold_id hG] at this)
                | exc y s2 => rw [eg] at q4; exact q4.elim
                | bad => rw [eg] at q4; exact q4.elim
              · rw [if_neg hil] at q3; exact q3.elim
            · subst hb
              exact ih q2
      exact key hh q1
end
end FL

set_option Elab.async false
set_option linter.all false
set_option maxRecDepth 100000
set_option maxHeartbeats 4000000
namespace FL
open PySem PySem.Spec PyProof.Rows L2

/-! ### e.f in an except suite -/
def xfF (x : Exn) (f : Str) : S → Res Val := fun st => optR ((x.fs.lookup f).map .d) st
section
variable {X : Cx} {G : Gx} {W : WX} {k : Nat}
theorem ef_xf {a : Addr} {oe : Obj} {d : Option Addr} {x : Exn} {pn : List (Addr × Obj)} {i : Nat} {n f : Str} {p pos : Pos} (T : XfC X.K (G.cl x.C)) (hno : PySem.W.findIn X.K (.ref (G.cl x.C)) f = some none) (hz : Zc (.ref (G.cl x.C)) d oe) (hf : ∃ vs, oe.data = .fields vs)
    (he : PE (X.suite a ((a, oe) :: pn)) (.Name n p) (tVar i)) (hb : attributeBase (.Name n p) f X.env (eval (.Name n p) X.env) = eval (.Name n p) X.env := by rfl) :
    EF (X.suite a ((a, oe) :: pn)) (G.hold (some ⟨i, a, .ref (G.cl x.C), d, x⟩)) W0 (.Attribute (.Name n p) f pos) (xfF x f) :=
  (pe_xf T hno hz hf he hb).imp fun σ H Q ⟨w, st, R, q⟩ => by
    have hx : σ[i]? = some (some (.ref a)) ∧ XRep (G.hold (some ⟨i, a, .ref (G.cl x.C), d, x⟩)) w (.ref (G.cl x.C)) d x := R.v.x
    obtain ⟨h1, h2⟩ := hx
    obtain ⟨dd, us, ed, e1, e2⟩ := h2.dict
    unfold xfF at q
    cases el : x.fs.lookup f with
    | none => rw [el] at q; exact q.elim
    | some y =>
      rw [el] at q
      obtain ⟨v, v1, v2⟩ := e2 f y el
      exact ⟨.ref a, h1, rfl, rfl, dd, us, v, ed, R.c.ex _ _ e1, v1, q w H (.refl w) R v v2⟩
/-- which own exceptions an except clause takes: all classes are direct heirs of class 0 -/
def subE (n : Nat) : Sub := fun c d => if c ≤ n then some (c == d || d == 0) else none
theorem subE_le {n c d : Nat} {b : Bool} (h : subE n c d = some b) : c ≤ n := by
  unfold subE at h
  by_cases z : c ≤ n
  · exact z
  · rw [if_neg z] at h; cases h

/-! ### instances: o.f -/
def fldD (Cs : List Nat) (f : Str) (x : Val) (cs : List Cell) : Option Val := match x with
  | .d (.ins C fs) => if Cs.contains C = true then (fs.lookup f).map .d else none
  | .rf j => match cs[j]? with
    | some (.ins C fs) => if Cs.contains C = true then (fs.lookup f).map .d else none
    | _ => none
  | _ => none
def fldF (Cs : List Nat) (f : Str) (fo : S → Res Val) : S → Res Val := fun st => bindR (fo st) fun x s => optR (fldD Cs f x s.c) s
theorem lookup_rep {H : Hp} {f : Str} : ∀ {us : List (Str × V)} {fs : List (Str × D)} {d : D}, us.map (·.1) = fs.map (·.1) → RepL G H (us.map (·.2)) (fs.map (·.2)) → fs.lookup f = some d → ∃ v, us.lookup f = some v ∧ Rep G H v d
  | [], [], _, _, _, h => by cases h
  | [], _ :: _, _, k, _, _ => by simp at k
  | _ :: _, [], _, _, _, h => by cases h
  | (g, v) :: us, (g', e) :: fs, d, k, r, h => by
    simp at k
    obtain ⟨k1, k2⟩ := k
    subst k1
    cases r with
    | cons a b =>
      by_cases hf : f = g
      · subst hf
        simp [List.lookup] at h ⊢
        subst h; exact a
      · have hb : (f == g) = false := by simpa using hf
        simp [List.lookup, hb] at h ⊢
        exact lookup_rep (by simpa using k2) b h
theorem lookup_none {f : Str} : ∀ {us : List (Str × V)} {fs : List (Str × D)}, us.map (·.1) = fs.map (·.1) → fs.lookup f = none → us.lookup f = none
  | [], _, _, _ => rfl
  | (g, v) :: us, [], k, _ => by simp at k
  | (g, v) :: us, (g', e) :: fs, k, h => by
    simp at k
    obtain ⟨k1, k2⟩ := k
    subst k1
    by_cases hf : f = g
    · subst hf; simp [List.lookup] at h
    · have hb : (f == g) = false := by simpa using hf
      have h' : fs.lookup f = none := by simpa only [List.lookup, hb] using h
      have := lookup_none (f := f) (us := us) (by simpa using k2) h'
      simp only [List.lookup, hb]
      exact this
/-- an instance in the heap as it stands -/
theorem ins_of {w : Wd} {cs : List Cell} {H : Hp} (R : RelC G w cs H) {v : V} {C : Nat} {fs : List (Str × D)} {x : Val} (r : RepV G w v x) (h : x = .d (.ins C fs) ∨ ∃ j, x = .rf j ∧ cs[j]? = some (.ins C fs)) :
    ∃ a dx us, v = .ref a ∧ H a = some (.ins (G.cl C) dx us) ∧ us.map (·.1) = fs.map (·.1) ∧ RepL G w.Hs (us.map (·.2)) (fs.map (·.2)) := by
  rcases h with rfl | ⟨j, rfl, e⟩
  · have r' : Rep G w.Hs v (.ins C fs) := r
    cases r' with
    | ins hs hk hr => exact ⟨_, _, _, rfl, R.ex _ _ hs, hk, hr⟩
  · obtain ⟨a, rfl, _, q⟩ := R.cell r e
    obtain ⟨_, dx, us, q1, q2, q3⟩ := q
    exact ⟨a, dx, us, rfl, q1, q2, q3⟩
theorem ef_fld {Cs : List Nat} {f : Str} {o : Expr} {fo : S → Res Val} {pos : Pos} (hK : X.K = G.K) (hc : ∀ C ∈ Cs, Cls G.K (G.cl C) ∧ NoAttr G.K (G.cl C) f) (ho : EF X G W o fo) (hb : attributeBase o f X.env (eval o X.env) = eval o X.env := by rfl) :
    EF X G W (.Attribute o f pos) (fldF Cs f fo) := (pe_fld ho hb).imp fun σ H Q ⟨w, st, R, q⟩ => by
  refine ⟨w, st, R, q.bind fun w1 H1 s1 x l1 R1 q1 v rv => ?_⟩
  have go : ∀ {C : Nat} {fs : List (Str × D)}, (x = .d (.ins C fs) ∨ ∃ j, x = .rf j ∧ s1.c[j]? = some (.ins C fs)) → PostE G W σ w1 (optR (if Cs.contains C = true then (fs.lookup f).map .d else none) s1) (fun w' H' _ d => ∀ v, RepV G w' v d → Q v H') →
      ∃ a C dx fs u, v = .ref a ∧ H1 a = some (.ins C dx fs) ∧ Cls X.K C ∧ NoAttr X.K C f ∧ fs.lookup f = some u ∧ Q u H1 := by
    intro C fs hx q
    by_cases z : Cs.contains C = true
    · rw [if_pos z] at q
      obtain ⟨a, dx, us, rfl, ha, hk, hr⟩ := ins_of R1.c rv hx
      obtain ⟨c1, c2⟩ := hc C (by simpa using z)
      cases el : fs.lookup f with
      | none => rw [el] at q; exact q.elim
      | some d =>
        rw [el] at q
        obtain ⟨u, u1, u2⟩ := lookup_rep hk hr el
        exact ⟨a, _, dx, us, u, rfl, ha, by rw [hK]; exact c1, by rw [hK]; exact c2, u1, q w1 H1 (.refl _) R1 u u2⟩
    · rw [if_neg z] at q; exact q.elim
  unfold fldD at q1
  split at q1
  · exact go (.inl rfl) q1
  · rename_i j
    split at q1
    · rename_i C fs e; exact go (.inr ⟨j, rfl, e⟩) q1
    · exact q1.elim
  · exact q1.elim

/-! ### self.f = v -/
def putD (f : Str) (d : D) : List (Str × D) → List (Str × D)
  | [] => [(f, d)]
  | (k, x) :: r => if k = f then (k, d) :: r else (k, x) :: putD f d r
theorem putD_rep {H : Hp} {f : Str} {v : V} {d : D} (rv : Rep G H v d) : ∀ {us : List (Str × V)} {fs : List (Str × D)}, us.map (·.1) = fs.map (·.1) → RepL G H (us.map (·.2)) (fs.map (·.2)) → (putF f v us).map (·.1) = (putD f d fs).map (·.1) ∧ RepL G H ((putF f v us).map (·.2)) ((putD f d fs).map (·.2))
  | [], [], _, _ => ⟨rfl, .cons rv .nil⟩
  | [], _ :: _, k, _ => by simp at k
  | _ :: _, [], k, _ => by simp at k
  | (g, u) :: us, (g', e) :: fs, k, r => by
    simp at k
    obtain ⟨k1, k2⟩ := k
    subst k1
    cases r with
    | cons a b =>
      by_cases hf : g = f
      · subst hf
        simp [putF, putD]
        exact ⟨by simpa using k2, .cons rv b⟩
      · obtain ⟨i1, i2⟩ := putD_rep rv (by simpa using k2) b
        simp [putF, putD, hf]
        exact ⟨by simpa using i1, .cons a i2⟩
def setFld (C : Nat) (f : Str) (o v : Val) (cs : List Cell) : Option (List Cell) := match o, v with
  | .rf j, .d x => match cs[j]? with
    | some (.ins C' fs) => if (C' == C && decide (fs.length < 900)) = true then some (cs.set j (.ins C (putD f x fs))) else none
    | _ => none
  | _, _ => none
def setfS (C : Nat) (f : Str) (fo fv : S → Res Val) : S → SRes := fun st => bindS (fv st) fun v s => bindS (fo s) fun o s => bindS (optR (setFld C f o v s.c) s) fun c s => .nx ⟨s.r, c⟩
theorem sf_fld {C : Nat} {f : Str} {o e : Expr} {fo fv : S → Res Val} {pos p2 : Pos} (hK : X.K = G.K) (c : Cls G.K (G.cl C)) (n : NoAttr G.K (G.cl C) f) (ho : EF X G W o fo) (hv : EF X G W e fv) (hs : swapsWith e (some (.Attribute o f p2)) pos.line X.env = pure false := by rfl) :
    SF X G W (.Assign [.Attribute o f p2] e pos) (setfS C f fo fv) := (ps_fld ho hv hs).imp fun D σ H ⟨w, st, R, q⟩ => by
  refine ⟨w, st, R, q.bindE fun w1 H1 s1 x l1 R1 q1 v rv => ?_⟩
  refine ⟨w1, s1, R1, q1.bindE fun w2 H2 s2 o l2 R2 q2 ov ro => ?_⟩
  cases o with
  | d o => cases x <;> exact q2.elim
  | rf j =>
    cases x with
    | rf m => exact q2.elim
    | d x =>
      unfold setFld at q2
      simp only at q2
      cases ec : s2.c[j]? with
      | none => simp only [ec] at q2; exact q2.elim
      | some cc =>
        cases cc with
        | ins C' fs =>
          simp only [ec] at q2
          by_cases z : (C' == C && decide (fs.length < 900)) = true
          · simp only [z, if_true] at q2
            rw [Bool.and_eq_true] at z
            obtain rfl : C' = C := by simpa using z.1
            have hl : fs.length < 900 := of_decide_eq_true z.2
            obtain ⟨a, rfl, ea, q0, dx, us, h1, h2, h3⟩ := R2.c.cell ro ec
            have hul : us.length < 1000 := by have := congrArg List.length h2; simp at this; omega
            obtain ⟨i1, i2⟩ := putD_rep (f := f) (rv.mono l2) h2 h3
            exact ⟨a, _, dx, us, rfl, h1, by rw [hK]; exact c, by rw [hK]; exact n, hul, q2 w2 σ _ (.refl _) ⟨R2.v, R2.c.put ea q0 ⟨q0, dx, _, upd_same, i1, i2⟩⟩⟩
          · simp only [z] at q2; exact q2.elim
        | _ => simp only [ec] at q2; exact q2.elim

/-! ### C(..) -/
def outI (n C : Nat) (r : List (Option Val)) (o : FRes) : Res Val := match o with
  | .ok (.d .non) c => match c[n]? with
    | some (.ins C' fs) => if C' = C then .ok (.d (.ins C fs)) ⟨r, c.take n⟩ else .bad
    | _ => .bad
  | .exc x c => .exc x ⟨r, c.take n⟩
  | _ => .bad
def makeF (C : Nat) (F : FS) (m : Nat) (g : S → Res (List Val)) : S → Res Val := fun st => bindR (g st) fun xs s => if xs.length = m then outI s.c.length C s.r (F (.rf s.c.length :: xs) (s.c ++ [.ins C []])) else .bad
/-- a new cell that is an instance -/
theorem RelC.cellI {w : Wd} {cs : List Cell} {H : Hp} (R : RelC G w cs H) {p dx : Addr} {C : Nat} (hp : H p = none) (hd : H dx = none) (ne : dx ≠ p) : RelC G ⟨w.as ++ [p], w.Hs⟩ (cs ++ [.ins C []]) (upd (upd H dx (.own p)) p (.ins (G.cl C) dx [])) := by
  have e1 : ∀ {b : Addr} {u : HO}, H b = some u → upd (upd H dx (.own p)) p (.ins (G.cl C) dx []) b = some u := fun {b u} h => by
    rw [upd_ne (ne_of_none h hp), upd_ne (ne_of_none h hd)]; exact h
  have hs := R.fresh hp
  -- the list's rule, its cell changed
  have L := R.cellL (us := []) (ds := []) hp .nil
  have G1 : RelC G ⟨w.as, w.Hs⟩ cs (upd (upd H dx (.own p)) p (.ins (G.cl C) dx [])) := R.growX (Exd.refl _) (fun a o e => e1 e) (fun a o e => e1 (R.ex a o e)) fun a o e => .inl e
  refine ⟨by simpa using L.len, L.nd, G1.ex, fun i a c ea ec => ?_⟩
  by_cases hi : i < cs.length
  · have hi' : i < w.as.length := by rw [R.len]; exact hi
    have ea' : w.as[i]? = some a := by rw [← ea]; show _ = (w.as ++ [p])[i]?; rw [List.getElem?_append_left hi']
    have ec' : cs[i]? = some c := by rw [← ec, List.getElem?_append_left hi]
    have q := G1.ok i a c ea' ec'
    cases c with
    | nst js =>
      obtain ⟨q0, qj, us, q1, q2⟩ := q
      refine ⟨q0, qj, us, q1, q2.trans (List.map_congr_left fun j hj => ?_)⟩
      show w.as[j]? = (w.as ++ [p])[j]?
      rw [List.getElem?_append_left (Nat.lt_trans (qj j hj) hi')]
    | _ => exact q
  · have hil := (List.getElem?_eq_some_iff.mp ec).1
    have hi2 : i = cs.length := by simp at hil; omega
    subst hi2
    have ea' : a = p := by
      have z : (w.as ++ [p])[cs.length]? = some a := ea
      rw [← R.len, List.getElem?_append_right (Nat.le_refl _)] at z
      simpa using z.symm
    have ec' : c = .ins C [] := by
      rw [List.getElem?_append_right (Nat.le_refl _)] at ec
      simpa using ec.symm
    subst ea' ec'
    exact ⟨hs, dx, [], upd_same, rfl, .nil⟩
/-- the last cell, an instance, becomes data -/
theorem RelC.popI {w0 w : Wd} {cs : List Cell} {H : Hp} (R : RelC G w cs H) {n : Nat} {a : Addr} {C : Nat} {fs : List (Str × D)} (ea : w.as[n]? = some a) (ec : cs[n]? = some (.ins C fs)) :
    ∃ dx us, RelC G ⟨w.as.take n, upd w.Hs a (.ins (G.cl C) dx us)⟩ (cs.take n) H ∧ Exd w.Hs (upd w.Hs a (.ins (G.cl C) dx us)) ∧ Rep G (upd w.Hs a (.ins (G.cl C) dx us)) (.ref a) (.ins C fs) := by
  obtain ⟨q0, dx, us, h1, h2, h3⟩ := R.ok n a _ ea ec
  have F := R.freeze ea q0 h1
  have l : Exd w.Hs (upd w.Hs a (.ins (G.cl C) dx us)) := Exd.new q0
  have T := F.cut n
  rw [List.take_set_of_le (Nat.le_refl n)] at T
  exact ⟨dx, us, T, l, Rep.ins upd_same h2 (h3.mono l)⟩
theorem make_of {C : Nat} {F : FS} {m : Nat} {g : S → Res (List Val)} {σ : L2.St} {H : Hp} {Q : VK} (h : tI G W (makeF C F m g) σ H Q) : tMake (G.cl C) (spF G (m + 1) F) [] (fun cls d H => W cls d σ H) (tIA G W g) σ H Q := by
  obtain ⟨w, st, R, q⟩ := h
  refine ⟨w, st, R, q.bind fun w1 H1 s1 xs l1 R1 q1 vs rvs => ?_⟩
  intro x dx hx hdx ne
  by_cases hl : xs.length = m
  · rw [if_pos hl] at q1
    have lD : w1.le ⟨w1.as ++ [x], w1.Hs⟩ := .snoc
    have R2 := R1.c.cellI (C := C) hx hdx ne
    refine ⟨⟨w1.as ++ [x], w1.Hs⟩, _, .rf s1.c.length :: xs, R2, .cons (repV_last R1.c.len) (by rw [List.append_nil]; exact rvs.mono lD), by simp [hl], ?_⟩
    cases ef : F (.rf s1.c.length :: xs) (s1.c ++ [.ins C []]) with
    | bad => rw [ef] at q1; exact q1.elim
    | exc y c =>
      rw [ef] at q1
      intro w3 H3 cls dd l3 R3 hy
      obtain ⟨e4, l4⟩ := (lD.trans l3).cut R1.c.len
      exact q1 ⟨w3.as.take s1.c.length, w3.Hs⟩ H3 cls dd l4 ⟨R1.v.mono l4, R3.cut _⟩ ⟨hy.cls, hy.dict⟩
    | ok v c =>
      rw [ef] at q1
      intro w3 H3 u l3 R3 ru
      cases v with
      | rf j => exact q1.elim
      | d v =>
        cases v with
        | non =>
          cases ru
          refine ⟨rfl, ?_⟩
          unfold outI at q1
          simp only at q1
          cases ec : c[s1.c.length]? with
          | none => simp only [ec] at q1; exact q1.elim
          | some cc =>
            cases cc with
            | ins C' fs =>
              simp only [ec] at q1
              by_cases hC : C' = C
              · subst hC
                rw [if_pos rfl] at q1
                have ea : w3.as[s1.c.length]? = some x := l3.at (by show (w1.as ++ [x])[s1.c.length]? = _; rw [← R1.c.len, List.getElem?_append_right (Nat.le_refl _)]; simp)
                obtain ⟨dx', us, T, l, r⟩ := R3.popI (w0 := w1) ea ec
                obtain ⟨e4, l4⟩ := (lD.trans l3).cut R1.c.len
                have l5 : w1.le ⟨w3.as.take s1.c.length, upd w3.Hs x (.ins (G.cl C') dx' us)⟩ := ⟨l4.as, l4.hs.trans l⟩
                exact q1 _ H3 l5 ⟨R1.v.mono l5, T⟩ (.ref x) r
              · rw [if_neg hC] at q1; exact q1.elim
            | _ => simp only [ec] at q1; exact q1.elim
        | _ => exact q1.elim
  · rw [if_neg hl] at q1; exact q1.elim
/-- the call of a class, the wish of exceptions at these slots -/
theorem run_mkS {pins : List (Addr × Obj)} {σ : L2.St} {H : Hp} {s : Shared} {Q : VK} {us : List Value} {vs : List V} {C f : Addr} {j : Nat} {fd : FuncData} {ps : List Str} {sp : Sp} {E : XK} (M : Mk X.K C f) (Fo : FnOk X.prog X.w X.K X.mg X.base (L2.CX X.prog X.w) j f fd ps sp) (hr : Room (j + 1) X.A) (hb : Binds X.K fd ps [])
    (hx : PassesAt (L2.CX X.prog X.w) X σ E) (I : Inv X pins σ H s) (r : Vals vs us)
    (h : ∀ x dx, H x = none → H dx = none → dx ≠ x → sp (.ref x :: (vs ++ [])) (upd (upd H dx (.own x)) x (.ins C dx [])) (fun v H2 => v = .non ∧ Q (.ref x) H2) E) : wpAny (model X.prog X.w) X.A (call (.ref C) us) (EP X pins σ Q) X.xe s := by
  have hq := h (s.heap.objs.size + 1) s.heap.objs.size (I.hok.fresh (Nat.le_succ _)) (I.hok.fresh (Nat.le_refl _)) (Nat.ne_of_lt (Nat.lt_succ_self _))
  have J := Inv.made (C := C) I
  have r2 : Vals (V.ref (s.heap.objs.size + 1) :: (vs ++ [])) (Value.ref (s.heap.objs.size + 1) :: (us ++ [])) := .cons rfl (r.append .nil)
  have hl : (Value.ref (s.heap.objs.size + 1) :: us ++ []).length = ps.length := (Fo.len _ _ _ _ hq ▸ r2.length.symm)
  have run := Fo.run _ X.stack _ _ ⟨Value.ref (s.heap.objs.size + 1) :: us, []⟩ _ _ _ E (hr.make C us []) (J.env0.make C us []) (hb _ (Value.ref (s.heap.objs.size + 1) :: us) J.kIn hl) r2 hq
  refine wpAny_call (make_map (f := f) I.kIn M.makes M.init (beq_iff_eq.mp M.fn) (codeAny_mono run fun r t hq2 => ?_))
  cases r with
  | error e => exact hx pins _ _ e t J hq2
  | ok fl =>
    cases fl with
    | next => exact False.elim hq2
    | brk => exact False.elim hq2
    | cont => exact False.elim hq2
    | ret u =>
      obtain ⟨v, H2, J2, rv, ev, q3⟩ := J.after hq2
      subst ev
      exact ⟨rv, ⟨V.ref (s.heap.objs.size + 1), H2, J2, rfl, q3⟩⟩
theorem ef_make {C : Nat} {F : FS} {m j : Nat} {f : Addr} {fd : FuncData} {ps : List Str} {x : Str} {p pos : Pos} {e : Expr} {es : List Expr} {g : S → Res (List Val)} (Cc : Fx X G W k) (M : Mk X.K (G.cl C) f) (Fo : FnOk X.prog X.w X.K X.mg X.base (L2.CX X.prog X.w) j f fd ps (spF G (m + 1) F)) (hj : j + 1 ≤ k)
    (hg : Gl X x) (hm : X.mg x = some (.ref (G.cl C))) (hb : Binds X.K fd ps []) (ha : AF X G W (e :: es) g) (hdb : (x == ("__debug__" : Str)) = false := by decide) (he : starEach (e :: es) X.env = (false, eval e X.env) :: starEach es X.env := by rfl) (hpl : (backTo pos (starEach es X.env)).any (·.1) = false := by rfl) :
    EF X G W (.Call (.Name x p) (e :: es) [] pos) (makeF C F m g) := by
  refine ⟨fun pins s σ H Q I h => ?_⟩
  refine wpAny_Call_Name_kw (ld_glob I hg hm ?_ hdb)
  refine PySem.W.callWith_K (h₀ := X.base) I.ok.mod.kin M.kp (thn (ha.run pos pins s σ H _ I (make_of h)) fun us s1 ⟨vs, H1, I1, r, q⟩ => ⟨I1.kIn, ?_⟩) he hpl
  exact run_mkS (E := fun cls d H => W cls d σ H) M Fo (Cc.hr.mono hj) hb (fun pins' H' s' e' s'' I' c => Cc.tk e' s'' (XE.of_call I' (fun _ _ _ h => h) c)) I1 r q
end
end FL

set_option Elab.async false
set_option linter.all false
set_option maxRecDepth 100000
set_option maxHeartbeats 4000000
namespace FL
open PySem PySem.Spec PyProof.Rows L2

section
variable {X : Cx} {G : Gx} {W : WX} {k : Nat}
/-! ### a def called at any place of the context's frames -/
theorem env0_at {A : Around} {pins : List (Addr × Obj)} {σ : L2.St} {H : Hp} {s : Shared} (I : Inv X pins σ H s) (hA : A.frames = X.A.frames) : Env0 X.prog X.w X.K X.mg X.base A X.stack s H :=
  ⟨hA.trans I.env0.frames, I.env0.mod, I.env0.bs, I.env0.bsz, I.env0.funs, I.env0.frf, I.env0.hok, I.env0.bare⟩
def EndR (X : Cx) (pins : List (Addr × Obj)) (σ : L2.St) (Q : VK) (r : Result) (s' : Shared) : Prop := match r with
  | .ok (.ret u) => EP X pins σ Q u s'
  | .ok _ => False
  | .error e => X.xe e s'
theorem run_at {A : Around} {pins : List (Addr × Obj)} {σ : L2.St} {H : Hp} {s : Shared} {Q : VK} {us : List Value} {vs : List V} {f : Addr} {j : Nat} {fd : FuncData} {ps : List Str} {sp : Sp} (Fo : FnOk X.prog X.w X.K X.mg X.base (L2.CX X.prog X.w) j f fd ps sp) (hr : Room j A) (hA : A.frames = X.A.frames) (hb : Binds X.K fd ps [])
    (tk : Takes X W) (I : Inv X pins σ H s) (r : Vals vs us) (h : sp vs H Q fun cls d H => W cls d σ H) : codeAny (model X.prog X.w) A (.call (.ref f) ⟨us, []⟩) (EndR X pins σ Q) s := by
  have hl : (us ++ []).length = ps.length := by rw [List.append_nil, ← r.length]; exact Fo.len _ _ _ _ h
  refine codeAny_mono (Fo.run A X.stack s H ⟨us, []⟩ us vs Q _ hr (env0_at I hA) (by have := hb s us I.kIn hl; rwa [List.append_nil] at this) r h) fun q s' hq => ?_
  cases q with
  | error e => exact tk e s' (XE.of_call I (fun _ _ _ h => h) hq)
  | ok fl =>
    cases fl with
    | ret u => exact I.after hq
    | next => exact False.elim hq
    | brk => exact False.elim hq
    | cont => exact False.elim hq
theorem call_at {A : Around} {pins : List (Addr × Obj)} {σ : L2.St} {H : Hp} {s : Shared} {Q : VK} {us : List Value} {vs : List V} {f : Addr} {j : Nat} {fd : FuncData} {ps : List Str} {sp : Sp} (Fo : FnOk X.prog X.w X.K X.mg X.base (L2.CX X.prog X.w) j f fd ps sp) (hr : Room j A) (hA : A.frames = X.A.frames) (hb : Binds X.K fd ps [])
    (tk : Takes X W) (I : Inv X pins σ H s) (r : Vals vs us) (h : sp vs H Q fun cls d H => W cls d σ H) : wpAny (model X.prog X.w) A (call (.ref f) us) (EP X pins σ Q) X.xe s :=
  wpAny_call (codeAny_mono (run_at Fo hr hA hb tk I r h) fun q s' hq => by
    cases q with
    | error e => exact hq
    | ok fl => cases fl <;> exact hq)

/-! ### o.m(..) -/
def insC (x : Val) (cs : List Cell) : Option (Nat × List (Str × D)) := match x with
  | .d (.ins C fs) => some (C, fs)
  | .rf j => match cs[j]? with
    | some (.ins C fs) => some (C, fs)
    | _ => none
  | _ => none
theorem insC_of {x : Val} {cs : List Cell} {C : Nat} {fs : List (Str × D)} (h : insC x cs = some (C, fs)) : x = .d (.ins C fs) ∨ ∃ j, x = .rf j ∧ cs[j]? = some (.ins C fs) := by
  cases x with
  | d x => cases x <;> first | (cases h; exact .inl rfl) | cases h
  | rf j =>
    unfold insC at h
    cases e : cs[j]? with
    | none => simp only [e] at h; cases h
    | some c => cases c <;> simp only [e] at h <;> first | (cases h; exact .inr ⟨j, rfl, e⟩) | cases h
structure MtOk (X : Cx) (G : Gx) (k : Nat) (m : Str) (n : Nat) (C : Nat) (F : FS) : Prop where
  ex : ∃ (f : Addr) (fd : FuncData) (ps : List Str) (j : Nat), Cls X.K (G.cl C) ∧ Meth X.K (G.cl C) m f ∧ FnOk X.prog X.w X.K X.mg X.base (L2.CX X.prog X.w) j f fd ps (spF G (n + 1) F) ∧ j ≤ k ∧ Binds X.K fd ps []
def k_m2 (F : FS) (n : Nat) (x : Val) (xs : List Val) (s : S) : Res Val := if xs.length = n then liftF s.r (F (x :: xs) s.c) else .bad
def methF (l : List (Nat × FS)) (m : Str) (n : Nat) (fo : S → Res Val) (g : S → Res (List Val)) : S → Res Val := fun st => bindR (fo st) fun x s => match insC x s.c with
  | some (C, fs) => if (fs.lookup m).isNone = true then match l.lookup C with
    | some F => bindR (g s) (k_m2 F n x)
    | none => .bad
    else .bad
  | none => .bad
theorem meth_go {l : List (Nat × FS)} {m : Str} {n : Nat} {g : S → Res (List Val)} {w1 : Wd} {s1 : S} {σ : L2.St} {H1 : Hp} {v : V} {x : Val} {Kp : Wd → Hp → S → Val → Prop} (R1 : Rel G w1 s1 σ H1) (rv : RepV G w1 v x) (hl : ∀ C F, l.lookup C = some F → MtOk X G k m n C F)
    (q1 : PostE G W σ w1 (match insC x s1.c with
      | some (C, fs) => if (fs.lookup m).isNone = true then match l.lookup C with
        | some F => bindR (g s1) (k_m2 F n x)
        | none => .bad
        else .bad
      | none => .bad) Kp) : ∃ (C : Nat) (F : FS) (a dx : Addr) (us : List (Str × V)), v = .ref a ∧ H1 a = some (.ins (G.cl C) dx us) ∧ us.lookup m = none ∧ MtOk X G k m n C F ∧ PostE G W σ w1 (bindR (g s1) (k_m2 F n x)) Kp := by
  cases ei : insC x s1.c with
  | none => rw [ei] at q1; exact q1.elim
  | some p =>
    obtain ⟨C, fs⟩ := p
    rw [ei] at q1
    simp only at q1
    by_cases z : (fs.lookup m).isNone = true
    · rw [if_pos z] at q1
      cases el : l.lookup C with
      | none => rw [el] at q1; exact q1.elim
      | some F =>
        rw [el] at q1
        obtain ⟨a, dx, us, rfl, ha, hk, hr⟩ := ins_of R1.c rv (insC_of ei)
        exact ⟨C, F, a, dx, us, rfl, ha, lookup_none hk (Option.isNone_iff_eq_none.mp z), hl C F el, q1⟩
    · rw [if_neg z] at q1; exact q1.elim
theorem ef_meth {l : List (Nat × FS)} {m : Str} {n : Nat} {o e : Expr} {es : List Expr} {apos pos : Pos} {fo : S → Res Val} {g : S → Res (List Val)} {pl : Sem Bool} (C : Fx X G W k) (hl : ∀ C F, l.lookup C = some F → MtOk X G k m n C F) (ho : EF X G W o fo) (ha : AF X G W (e :: es) g)
    (hst : starEach (e :: es) X.env = (false, eval e X.env) :: starEach es X.env := by rfl) (hpl : (backTo pos (starEach es X.env)).any (·.1) = false := by rfl)
    (ht : eval (.Call (.Attribute o m apos) (e :: es) [] pos) X.env = (do
      let ov ← eval o X.env
      standAt apos.atName
      let (f, first) ← holding [ov] (getMethod ov m pl)
      callWith pos f first (backTo pos (starEach (e :: es) X.env)) (backToKw pos (keywordEach [] X.env))) := by rfl) :
    EF X G W (.Call (.Attribute o m apos) (e :: es) [] pos) (methF l m n fo g) := by
  refine ⟨fun pins s σ H Q I ⟨w, st, R, q⟩ => ?_⟩
  have ev := ho.run pins s σ H (fun v H1 => ∃ w1 s1 x, w.le w1 ∧ Rel G w1 s1 σ H1 ∧ RepV G w1 v x ∧ PostE G W σ w1 _ _) I ⟨w, st, R, q.bind fun w1 H1 s1 x l1 R1 q1 v rv => ⟨w1, s1, x, l1, R1, rv, q1⟩⟩
  refine PySem.W.methodCall_KW (pl := pl) (thn ev fun u s1 ⟨x, H1, I1, rx, w1, st1, xv, l1, R1, rv, q1⟩ => ?_) ht
  obtain ⟨Cc, F, a, dx, us, rfl, hins, hlk, M, q2⟩ := meth_go R1 rv hl q1
  obtain ⟨f, fd, ps, j, c1, c2, Fo, hj, hb⟩ := M.ex
  obtain rfl : u = Value.ref a := rx
  refine getmeth_ok I1 hins c1 c2 hlk ?_
  have ea := ha.run pos pins s1 σ H1 (fun vs H2 => ∃ w2 s2 xs, w1.le w2 ∧ Rel G w2 s2 σ H2 ∧ RepVs G w2 vs xs ∧ PostE G W σ w2 _ _) I1 ⟨w1, st1, R1, q2.bind fun w2 H2 s2 xs l2 R2 q3 vs rvs => ⟨w2, s2, xs, l2, R2, rvs, q3⟩⟩
  refine PySem.W.callWith_K (first := [.ref a]) (h₀ := X.base) I.ok.mod.kin c2.kp (thn ea fun us2 s2 ⟨vs, H2, I2, r, w2, st2, xs, l2, R2, rvs, q3⟩ => ⟨I2.kIn, ?_⟩) hst hpl
  have q4 : PostE G W σ w2 (if xs.length = n then liftF st2.r (F (xv :: xs) st2.c) else .bad) _ := q3
  by_cases hn : xs.length = n
  · rw [if_pos hn] at q4
    exact call_at (us := .ref a :: us2) (vs := .ref a :: vs) Fo (C.hr.mono hj) rfl hb C.tk I2 (.cons rfl r) ⟨w2, st2.c, xv :: xs, R2.c, .cons (rv.mono l2) rvs, by simp [hn], postF_of R2.v q4⟩
  · rw [if_neg hn] at q4; exact q4.elim
theorem ef_meth0 {l : List (Nat × FS)} {m : Str} {o : Expr} {apos pos : Pos} {fo : S → Res Val} {pl : Sem Bool} (C : Fx X G W k) (hl : ∀ C F, l.lookup C = some F → MtOk X G k m 0 C F) (ho : EF X G W o fo)
    (ht : eval (.Call (.Attribute o m apos) [] [] pos) X.env = (do
      let ov ← eval o X.env
      standAt apos.atName
      let (f, first) ← holding [ov] (getMethod ov m pl)
      callWith pos f first (backTo pos (starEach [] X.env)) (backToKw pos (keywordEach [] X.env))) := by rfl) :
    EF X G W (.Call (.Attribute o m apos) [] [] pos) (methF l m 0 fo aNil) := by
  refine ⟨fun pins s σ H Q I ⟨w, st, R, q⟩ => ?_⟩
  have ev := ho.run pins s σ H (fun v H1 => ∃ w1 s1 x, w.le w1 ∧ Rel G w1 s1 σ H1 ∧ RepV G w1 v x ∧ PostE G W σ w1 _ _) I ⟨w, st, R, q.bind fun w1 H1 s1 x l1 R1 q1 v rv => ⟨w1, s1, x, l1, R1, rv, q1⟩⟩
  refine PySem.W.methodCall_KW (pl := pl) (thn ev fun u s1 ⟨x, H1, I1, rx, w1, st1, xv, l1, R1, rv, q1⟩ => ?_) ht
  obtain ⟨Cc, F, a, dx, us, rfl, hins, hlk, M, q2⟩ := meth_go R1 rv hl q1
  obtain ⟨f, fd, ps, j, c1, c2, Fo, hj, hb⟩ := M.ex
  obtain rfl : u = Value.ref a := rx
  refine getmeth_ok I1 hins c1 c2 hlk ?_
  refine PySem.W.callWith_K0 (first := [.ref a]) I1.kIn c2.kp ?_
  have q4 : PostE G W σ w1 (liftF st1.r (F (xv :: []) st1.c)) _ := q2
  exact call_at (us := [.ref a]) (vs := [.ref a]) Fo (C.hr.mono hj) rfl hb C.tk I1 (.cons rfl .nil) ⟨w1, st1.c, [xv], R1.c, .cons rv .nil, rfl, postF_of R1.v q4⟩
end

/-! ### types of values, isinstance -/
inductive Tg where
  | ty (n : String) | own (C : Nat)
  deriving DecidableEq
def tgD : D → Option Tg
  | .non => some (.ty "NoneType")
  | .bl _ => some (.ty "bool")
  | .int _ => some (.ty "int")
  | .str _ => some (.ty "str")
  | .tup _ => some (.ty "tuple")
  | .lst _ => some (.ty "list")
  | .ins C _ => some (.own C)
  | _ => none
def tgV (x : Val) (cs : List Cell) : Option Tg := match x with
  | .d d => tgD d
  | .rf j => match cs[j]? with
    | some (.lst _) => some (.ty "list")
    | some (.nst _) => some (.ty "list")
    | some (.ins C _) => some (.own C)
    | some (.dic _) => some (.ty "dict")
    | _ => none
def tv (G : Gx) : Tg → Value
  | .ty n => .type n
  | .own C => .ref (G.cl C)
/-- an own class whose instances are asked for their type -/
structure InsK (K : PySem.W.Frag) (C : Addr) : Prop where
  cl : Cls K C
  ha : PySem.W.findIn K (.ref C) "__class__" = some (some (.builtin "object.__class__"))
  hn : PySem.W.specialIn K (.builtin "object.__class__") "__get__" = some (some (.builtin "getset_descriptor.__get__"))
  ht : PySem.W.takesIn K (.builtin "object.__class__") = some true
  hm : PySem.W.mroIn K C (.type "object") = some true
def tyL : List String := ["NoneType", "bool", "int", "str", "tuple", "list", "dict"]
structure IsK (K : PySem.W.Frag) (cl : Nat → Addr) (Is : List Nat) : Prop where
  ins : ∀ C ∈ Is, InsK K (cl C)
  tyOwn : ∀ C ∈ Is, ∀ a ∈ tyL, PySem.W.kitOne K (.type a) (.ref (cl C)) = some false
  ownTy : ∀ C ∈ Is, ∀ b ∈ tyL, PySem.W.kitOne K (.ref (cl C)) (.type b) = some false
  own : ∀ C ∈ Is, ∀ D ∈ Is, PySem.W.kitOne K (.ref (cl C)) (.ref (cl D)) = some (decide (C = D))
def isT (Is : List Nat) (t u : Tg) : Option Bool := match t, u with
  | .ty a, .ty b => if (tyL.contains a && tyL.contains b && (b != "NoneType")) = true then some (a == b || (a == "bool" && b == "int")) else none
  | .ty a, .own C => if (tyL.contains a && Is.contains C) = true then some false else none
  | .own C, .ty b => if (tyL.contains b && Is.contains C) = true then some false else none
  | .own C, .own D => if (Is.contains C && Is.contains D) = true then some (decide (C = D)) else none
theorem tyL_kit : (tyL.all fun a => (tyL.filter (· != "NoneType")).all fun b => decide (kitB a b = some (a == b || (a == "bool" && b == "int")))) = true := by decide +kernel
theorem isT_ok {G : Gx} {Is : List Nat} (h : IsK G.K G.cl Is) {t u : Tg} {b : Bool} (e : isT Is t u = some b) : PySem.W.kitOne G.K (tv G t) (tv G u) = some b := by
  unfold isT at e
  split at e
  · split at e
    · rename_i a c z
      cases e
      simp only [Bool.and_eq_true] at z
      have k1 := List.all_eq_true.mp tyL_kit a (by simpa using z.1.1)
      have k2 := List.all_eq_true.mp k1 c (by rw [List.mem_filter]; exact ⟨by simpa using z.1.2, z.2⟩)
      exact kit_ty (of_decide_eq_true k2)
    · cases e
  · split at e
    · rename_i a C z
      cases e
      simp only [Bool.and_eq_true] at z
      exact h.tyOwn C (by simpa using z.2) a (by simpa using z.1)
    · cases e
  · split at e
    · rename_i C a z
      cases e
      simp only [Bool.and_eq_true] at z
      exact h.ownTy C (by simpa using z.2) a (by simpa using z.1)
    · cases e
  · split at e
    · rename_i C D z
      cases e
      simp only [Bool.and_eq_true] at z
      exact h.own C (by simpa using z.1) D (by simpa using z.2)
    · cases e
/-- the type of a value, as the heap tells it -/
theorem tyx_of {G : Gx} {Is : List Nat} {w : Wd} {cs : List Cell} {H : Hp} {v : V} {x : Val} {t : Tg} (h : IsK G.K G.cl Is) (R : RelC G w cs H) (r : RepV G w v x) (e : tgV x cs = some t) (ho : ∀ C, t = .own C → C ∈ Is) : TyX G.K H v (tv G t) := by
  have own : ∀ {C : Nat} {fs : List (Str × D)}, (x = .d (.ins C fs) ∨ ∃ j, x = .rf j ∧ cs[j]? = some (.ins C fs)) → C ∈ Is → TyX G.K H v (.ref (G.cl C)) := by
    intro C fs hx hC
    obtain ⟨a, dx, us, rfl, ha, _, _⟩ := ins_of R r hx
    have i := h.ins C hC
    exact .base (.ins ha i.cl i.ha i.hn i.ht i.hm)
  cases x with
  | d d =>
    have e' : tgD d = some t := e
    cases d with
    | non => cases e'; cases r; exact .base .non
    | bl b => cases e'; cases r; exact .base (.bl b)
    | int i => cases e'; cases r; exact .base (.int i)
    | str z => cases e'; cases r; exact .base (.str z)
    | tup ds =>
      cases e'
      cases r with
      | tup hs hr =>
        rcases R.ex.t hs with (hh | ⟨o, hh⟩) | hh
        · exact .base (.tup hh)
        · exact .fTuple hh
        · obtain ⟨o, its, n, hk, hc, _⟩ := hh
          exact .kTuple hk hc
    | lst ds => cases e'; cases r with | lst hs hr => exact .base (.lst (R.ex _ _ hs))
    | ins C fs => cases e'; exact own (.inl rfl) (ho C rfl)
    | _ => cases e'
  | rf j =>
    unfold tgV at e
    cases ec : cs[j]? with
    | none => simp only [ec] at e; cases e
    | some c =>
      simp only [ec] at e
      obtain ⟨a, rfl, _, q⟩ := R.cell r ec
      cases c with
      | lst ds => cases e; obtain ⟨_, us, q, _⟩ := q; exact .base (.lst q)
      | nst js => cases e; obtain ⟨_, _, us, q, _⟩ := q; exact .base (.lst q)
      | ins C fs => cases e; exact own (.inr ⟨j, rfl, ec⟩) (ho C rfl)
      | dic kvs =>
        cases e
        obtain ⟨_, ⟨us, q, _⟩ | ⟨us, q, _⟩⟩ := q
        · exact .base (.dK q)
        · exact .base (.dT q)
      | dead => cases e
def tgOk (Is : List Nat) : Tg → Bool
  | .own C => Is.contains C
  | .ty _ => true
def clD : D → Option Tg
  | .ty n => some (.ty n)
  | .cl C => some (.own C)
  | _ => none
def anyT (Is : List Nat) (t : Tg) : List D → Option Bool
  | [] => some false
  | d :: ds => match clD d with
    | none => none
    | some u => match isT Is t u with
      | some true => if (ds.all fun d => (clD d).isSome) = true then some true else none
      | some false => anyT Is t ds
      | none => none
def isiO (Is : List Nat) : ON := fun xs cs => match xs with
  | [x, .d c] => match tgV x cs with
    | none => none
    | some t => if tgOk Is t = true then match c with
      | .tup us => (anyT Is t us).map fun b => .d (.bl b)
      | c => match clD c with
        | some u => (isT Is t u).map fun b => .d (.bl b)
        | none => none
      else none
  | _ => none
theorem clV_of {G : Gx} {H : Hp} {v : V} {d : D} {u : Tg} (r : Rep G H v d) (e : clD d = some u) : ClsV v (tv G u) := by
  cases d with
  | ty n => cases e; cases r; exact .ty n
  | cl C => cases e; cases r; exact .own _
  | _ => cases e
theorem clVs_of {G : Gx} {H : Hp} : ∀ {vs : List V} {ds : List D}, RepL G H vs ds → (ds.all fun d => (clD d).isSome) = true → ∃ us : List Tg, Paired ClsV vs (us.map (tv G)) ∧ ds.map clD = us.map some
  | _, _, .nil, _ => ⟨[], .nil, rfl⟩
  | _, _, .cons (d := d) a b, h => by
    simp only [List.all_cons, Bool.and_eq_true] at h
    obtain ⟨us, h1, h2⟩ := clVs_of b h.2
    obtain ⟨u, hu⟩ := Option.isSome_iff_exists.mp h.1
    exact ⟨u :: us, .cons (clV_of a hu) h1, by simp [hu, h2]⟩
theorem anyT_all {Is : List Nat} {t : Tg} : ∀ {ds : List D} {b : Bool}, anyT Is t ds = some b → (ds.all fun d => (clD d).isSome) = true
  | [], _, _ => rfl
  | d :: ds, b, h => by
    unfold anyT at h
    cases e : clD d with
    | none => simp only [e] at h; cases h
    | some u =>
      simp only [e] at h
      cases ei : isT Is t u with
      | none => simp only [ei] at h; cases h
      | some c =>
        cases c with
        | true =>
          simp only [ei] at h
          by_cases z : (ds.all fun d => (clD d).isSome) = true
          · simp only [List.all_cons, e]; simpa using z
          · rw [if_neg z] at h; cases h
        | false =>
          simp only [ei] at h
          have := anyT_all h
          simp only [List.all_cons, e]; simpa using this
theorem anyT_kit {G : Gx} {Is : List Nat} {t : Tg} (h : IsK G.K G.cl Is) : ∀ {ds : List D} {us : List Tg} {b : Bool}, anyT Is t ds = some b → ds.map clD = us.map some → PySem.W.kitAny G.K (tv G t) (us.map (tv G)) = some b
  | [], us, b, e, m => by
    cases us with
    | nil => cases e; rfl
    | cons => cases m
  | d :: ds, us, b, e, m => by
    cases us with
    | nil => cases m
    | cons u us =>
      simp only [List.map_cons, List.cons.injEq] at m
      unfold anyT at e
      simp only [m.1] at e
      cases ei : isT Is t u with
      | none => simp only [ei] at e; cases e
      | some c =>
        cases c with
        | true =>
          simp only [ei] at e
          split at e
          · cases e; exact kitAny_cons (isT_ok h ei) (fun z => by cases z) (fun _ => rfl)
          · cases e
        | false =>
          simp only [ei] at e
          exact kitAny_cons (isT_ok h ei) (fun _ => anyT_kit h e m.2) (fun z => by cases z)
section
variable {X : Cx} {G : Gx} {W : WX} {k : Nat}
/-- isinstance(x, T), T any tuple of classes -/
def rIsiS (K : PySem.W.Frag) : List V → Hp → VK → Prop := fun xs H Q => ∃ (x : V) (tp : Addr) (cs : List V) (t : Value) (us : List Value) (b : Bool), xs = [x, .ref tp] ∧ SqT K H tp cs ∧ Paired ClsV cs us ∧ TyX K H x t ∧ PySem.W.kitAny K t us = some b ∧ Q (.bl b) H
theorem call_isiS : CallR X (.builtin "isinstance") (rIsiS X.K) := by
  intro pins s σ H xs us Q I r ⟨x, tp, cs, t, ws, b, e1, hT, kk, ty, e, q⟩
  subst e1
  obtain ⟨u1, u2, rfl, r1, r2⟩ := vals2 r
  cases (show u2 = Value.ref tp from r2)
  obtain ⟨P, Z, p, hx⟩ := kit_of I r1 ty
  obtain ⟨its, rv, ⟨o, h1, h2, n, h3⟩, hz⟩ := I.tuple hT
  obtain ⟨oc, od, dt, sl⟩ := o
  have e3 := ClsV.all kk rv
  subst e3
  simp only at h2 h3
  subst h2 h3
  exact PySem.W.kia_tup Z I.kIn p h1 e hx fun tk => ⟨.bl b, H, I.tok tk, rfl, q⟩
theorem ob_isi {Is : List Nat} (hK : X.K = G.K) (h : IsK G.K G.cl Is) : CallR X (.builtin "isinstance") (rN G (isiO Is)) := ((call_isi (X := X)).or call_isiS).imp fun vs H Q ⟨w, cs, ds, R, r, q⟩ => by
  unfold isiO at q
  split at q
  · rename_i x c
    obtain ⟨v, u, rfl, rv, ru⟩ := repVs_two r
    cases et : tgV x cs with
    | none => simp only [et] at q; exact q.elim
    | some t =>
      simp only [et] at q
      by_cases z : tgOk Is t = true
      · rw [if_pos z] at q
        have ty := tyx_of h R rv et fun C e => by subst e; simpa [tgOk] using z
        have one : ∀ {b : Option Bool}, (∃ u', clD c = some u' ∧ b = isT Is t u') → Give G w cs (b.map fun b => .d (.bl b)) Q → rIsi X.K [v, u] H Q := by
          intro b ⟨u', e1, e2⟩ q
          subst e2
          cases ei : isT Is t u' with
          | none => rw [ei] at q; exact q.elim
          | some b =>
            rw [ei] at q
            exact ⟨v, u, tv G t, tv G u', b, rfl, clV_of ru e1, by rw [hK]; exact ty, by rw [hK]; exact isT_ok h ei, Give.here R q (.bl b)⟩
        split at q
        · rename_i us
          cases ea : anyT Is t us with
          | none => rw [ea] at q; exact q.elim
          | some b =>
            rw [ea] at q
            have hall := anyT_all ea
            have ru' : Rep G w.Hs u (.tup us) := ru
            cases ru' with
            | @tup a xs _ hs hr =>
              obtain ⟨ts, p1, p2⟩ := clVs_of hr hall
              exact .inr ⟨v, a, xs, tv G t, ts.map (tv G), b, rfl, by rw [hK]; exact R.ex.t hs, p1, by rw [hK]; exact ty, by rw [hK]; exact anyT_kit h ea p2, Give.here R q (.bl b)⟩
        · split at q
          · rename_i u' e; exact .inl (one ⟨u', e, rfl⟩ q)
          · exact q.elim
      · rw [if_neg z] at q; exact q.elim
  · exact q.elim
end
end FL

set_option Elab.async false
set_option linter.all false
set_option maxRecDepth 100000
set_option maxHeartbeats 4000000
namespace FL
open PySem PySem.Spec PyProof.Rows L2

section
variable {X : Cx} {G : Gx} {W : WX} {k : Nat}
/-- an instance, as the model's rules ask for it -/
theorem inst_of {pins : List (Addr × Obj)} {σ : L2.St} {H : Hp} {s : Shared} {a C dx : Addr} {fs : List (Str × V)} (I : Inv X pins σ H s) (e : H a = some (.ins C dx fs)) : ∃ ox od, PySem.W.InstAt s.heap a ox C (some od) := by
  obtain ⟨mA, O, _⟩ := ins_get I.hok e
  obtain ⟨od, J, _⟩ := O.look
  exact ⟨_, od, J⟩
theorem back_of {pins : List (Addr × Obj)} {σ : L2.St} {Q : VK} {u : Value} {s : Shared} (h : EP X pins σ Q u s) : PySem.W.CmpBack (EP X pins σ Q) u s := by
  cases u with
  | notImplemented =>
    obtain ⟨v, H, I, r, q⟩ := h
    cases v <;> first | (obtain ⟨t, z⟩ := r; cases z) | cases r
  | _ => exact h
/-- an operator that an own class has as a method -/
structure OwnM (X : Cx) (G : Gx) (k : Nat) (m : Str) (C : Nat) (n : Nat) (F : FS) : Prop where
  ex : ∃ (f : Addr) (fd : FuncData) (ps : List Str) (j : Nat), PySem.W.findIn X.K (.ref (G.cl C)) m = some (some (.ref f)) ∧ PySem.W.isFn X.K (.ref f) = true ∧ FnOk X.prog X.w X.K X.mg X.base (L2.CX X.prog X.w) j f fd ps (spF G n F) ∧ j ≤ k ∧ Binds X.K fd ps []
def isInsC (C : Nat) (x : Val) (cs : List Cell) : Bool := match insC x cs with
  | some (C', _) => C' == C
  | none => false
theorem isInsC_of {C : Nat} {x : Val} {w : Wd} {cs : List Cell} {H : Hp} {v : V} (R : RelC G w cs H) (r : RepV G w v x) (h : isInsC C x cs = true) : ∃ a dx us, v = .ref a ∧ H a = some (.ins (G.cl C) dx us) := by
  unfold isInsC at h
  cases e : insC x cs with
  | none => rw [e] at h; cases h
  | some p =>
    obtain ⟨C', fs⟩ := p
    rw [e] at h
    obtain rfl : C' = C := by simpa using h
    obtain ⟨a, dx, us, e1, e2, _⟩ := ins_of R r (insC_of e)
    exact ⟨a, dx, us, e1, e2⟩
/-! ### operators that may change cells, that may raise -/
abbrev OS := Val → Val → S → Res Val
def rS (G : Gx) (W : WX) (o : OS) : V → V → L2.St → Hp → VK → Prop := fun x y σ H Q => ∃ w st vx vy, Rel G w st σ H ∧ RepV G w x vx ∧ RepV G w y vy ∧ PostE G W σ w (o vx vy st) fun w' H' _ d => ∀ v, RepV G w' v d → Q v H'
def OpS (X : Cx) (G : Gx) (W : WX) (f : Value → Value → Sem Value) (o : OS) : Prop := ∀ (pins : List (Addr × Obj)) (s : Shared) (σ : L2.St) (H : Hp) (x y : V) (v u : Value) (Q : VK), Inv X pins σ H s → L2.RelV x v → L2.RelV y u → rS G W o x y σ H Q → wpAny (model X.prog X.w) X.A (f v u) (EP X pins σ Q) X.xe s
def k_bs2 (o : OS) (x y : Val) (s : S) : Res Val := o x y s
def k_bs1 (o : OS) (fb : S → Res Val) (x : Val) (s : S) : Res Val := bindR (fb s) (k_bs2 o x)
def binS (o : OS) (fa fb : S → Res Val) : S → Res Val := fun st => bindR (fa st) (k_bs1 o fb)
section
variable {a b : Expr} {fa fb : S → Res Val} {o : OS} {pos : Pos}
theorem binS_t {σ : L2.St} {H : Hp} {Q : VK} (h : tI G W (binS o fa fb) σ H Q) : tI G W fa σ H fun x H1 => tI G W fb σ H1 fun y H2 => rS G W o x y σ H2 Q := by
  obtain ⟨w, st, R, q⟩ := h
  exact ⟨w, st, R, q.bind fun w1 H1 s1 x l1 R1 q1 v rv => ⟨w1, s1, R1, q1.bind fun w2 H2 s2 y l2 R2 q2 u ru => ⟨w2, s2, x, y, R2, rv.mono l2, ru, q2⟩⟩⟩
theorem ef_binS {op : Operator} (h : OpS X G W (binaryOp op) o) (ha : EF X G W a fa) (hb : EF X G W b fb) : EF X G W (.BinOp a op b pos) (binS o fa fb) :=
  ⟨fun pins s σ H Q I q => wpAny_BinOp (binT ha hb I (R := fun x y H2 => rS G W o x y σ H2 Q) (binS_t q) fun v u s2 x y H2 I2 rx ry q => h pins s2 σ H2 x y v u Q I2 rx ry q)⟩
theorem ef_cmpS {op : CmpOp} (h : OpS X G W (compareOp op) o) (ha : EF X G W a fa) (hb : EF X G W b fb) (hm : behindInMarks op b = false := by first | exact nomark _ | rfl) : EF X G W (.Compare a [op] [b] pos) (binS o fa fb) :=
  ⟨fun pins s σ H Q I q => wpAny_Compare1 (binT ha hb I (R := fun x y H2 => rS G W o x y σ H2 Q) (binS_t q) fun v u s2 x y H2 I2 rx ry q => h pins s2 σ H2 x y v u Q I2 rx ry q) hm⟩
theorem tf_cmpS {op : CmpOp} (h : OpS X G W (compareOp op) o) (ha : EF X G W a fa) (hb : EF X G W b fb) (hm : behindInMarks op b = false := by first | exact nomark _ | rfl) : TF X G W (.Compare a [op] [b] pos) (tstF (binS o fa fb)) := by
  refine ⟨fun pins s σ H Q I q => ?_⟩
  have q2 : tTest (tI G W (binS o fa fb)) σ H Q := tst_of (fun _ _ _ h => h) q
  refine wpAny_isTrue_Compare1 (thn (ha.run pins s σ H _ I (binS_t q2)) fun v s1 ⟨x, H1, I1, r1, q1⟩ => thn (hb.run pins s1 σ H1 _ I1 q1) fun u s2 ⟨y, H2, I2, r2, q2⟩ =>
    thn (h pins s2 σ H2 x y v u _ I2 r1 r2 q2) fun c s3 ⟨z, H3, I3, r3, kb, e, q3⟩ => ?_) hm
  subst e
  obtain rfl : c = Value.bool kb := r3
  exact wpAny_truthy_bool ⟨H3, I3, q3⟩
end
/-- a + b, both instances of C -/
def ownO (C : Nat) (F : FS) : OS := fun x y s => if (isInsC C x s.c && isInsC C y s.c) = true then liftF s.r (F [x, y] s.c) else .bad
theorem os_own {C : Nat} {F : FS} {op : Operator} (Cc : Fx X G W k) (M : OwnM X G k (PySem.dunder op.info.2) C 2 F) (hc : PySem.W.selfFirst X.K (G.cl C) = true) : OpS X G W (binaryOp op) (ownO C F) := by
  intro pins s σ H x y v u Q I r1 r2 ⟨w, st, vx, vy, R, rx, ry, q⟩
  unfold ownO at q
  by_cases z : (isInsC C vx st.c && isInsC C vy st.c) = true
  · rw [if_pos z] at q
    rw [Bool.and_eq_true] at z
    obtain ⟨ax, dx, ux, e1, h1⟩ := isInsC_of R.c rx z.1
    obtain ⟨ay, dy, uy, e2, h2⟩ := isInsC_of R.c ry z.2
    subst e1 e2
    obtain rfl : v = Value.ref ax := r1
    obtain rfl : u = Value.ref ay := r2
    obtain ⟨ox, od, J1⟩ := inst_of I h1
    obtain ⟨oy, od2, J2⟩ := inst_of I h2
    obtain ⟨m, Fr⟩ := I.fr
    obtain ⟨f, fd, ps, j, m1, m2, Fo, hj, hbd⟩ := M.ex
    exact PySem.W.binop_K Fr I.ok.mod.kin J1 J2.type hc m1 m2 (wpAny_mono (call_at (vs := [.ref ax, .ref ay]) Fo (Cc.hr.mono hj) rfl hbd Cc.tk I (.cons rfl (.cons rfl .nil)) ⟨w, st.c, [vx, vy], R.c, .cons rx (.cons ry .nil), rfl, postF_of R.v q⟩) (fun _ _ h => back_of h) fun _ _ h => h)
  · rw [if_neg z] at q; exact q.elim
/-- what a class with its own __eq__ says of the others -/
structure EqK (K : PySem.W.Frag) (cl : Nat → Addr) (Is : List Nat) (C : Nat) : Prop where
  ty : ∀ a ∈ tyL, PySem.W.notFirst K (cl C) (.type a) = true
  own : ∀ D ∈ Is, PySem.W.notFirst K (cl C) (.ref (cl D)) = true
def tgIn (Is : List Nat) : Tg → Bool
  | .ty a => tyL.contains a
  | .own D => Is.contains D
theorem EqK.at {Is : List Nat} {C : Nat} {t : Tg} (h : EqK G.K G.cl Is C) (e : tgIn Is t = true) : PySem.W.notFirst G.K (G.cl C) (tv G t) = true := by
  cases t with
  | ty a => exact h.ty a (by simpa [tgIn] using e)
  | own D => exact h.own D (by simpa [tgIn] using e)
theorem ty_looks {Is : List Nat} {pins : List (Addr × Obj)} {σ : L2.St} {H : Hp} {s : Shared} {w : Wd} {cs : List Cell} {v : V} {u : Value} {x : Val} {t : Tg} (hK : X.K = G.K) (h : IsK G.K G.cl Is) (I : Inv X pins σ H s) (R : RelC G w cs H) (ru : L2.RelV v u) (r : RepV G w v x) (e : tgV x cs = some t) (ho : tgIn Is t = true) :
    PySem.W.Looks (model X.prog X.w) s.heap (typeOf u) (tv G t) := by
  have ty := tyx_of h R r e fun C q => by subst q; simpa [tgIn] using ho
  rw [← hK] at ty
  obtain ⟨P, Z, p, _⟩ := kit_of I ru ty
  exact Z.ty _ _ I.kIn p
/-- x == y, x an instance of C; neg: x != y -/
def negR (r : Res Val) : Res Val := bindR r fun v s => bindR (optR (boolV v) s) fun b s => .ok (.d (.bl (!b))) s
def eqXO (Is : List Nat) (C : Nat) (F : FS) (o : O2) : OS := fun x y s => if isInsC C x s.c = true then (match tgV y s.c with
    | some t => if tgIn Is t = true then liftF s.r (F [x, y] s.c) else .bad
    | none => .bad)
  else optR (o x y s.c) s
theorem os_eqX {Is : List Nat} {C : Nat} {F : FS} (Cc : Fx X G W k) (M : OwnM X G k "__eq__" C 2 F) (hI : IsK G.K G.cl Is) (hE : EqK G.K G.cl Is C) : OpS X G W (compareOp .Eq) (eqXO Is C F eqO) := by
  intro pins s σ H x y v u Q I r1 r2 ⟨w, st, vx, vy, R, rx, ry, q⟩
  unfold eqXO at q
  by_cases z : isInsC C vx st.c = true
  · rw [if_pos z] at q
    obtain ⟨ax, dx, ux, e1, h1⟩ := isInsC_of R.c rx z
    subst e1
    obtain rfl : v = Value.ref ax := r1
    cases et : tgV vy st.c with
    | none => rw [et] at q; exact q.elim
    | some t =>
      rw [et] at q
      simp only at q
      by_cases zt : tgIn Is t = true
      · rw [if_pos zt] at q
        obtain ⟨ox, od, J1⟩ := inst_of I h1
        obtain ⟨m, Fr⟩ := I.fr
        obtain ⟨f, fd, ps, j, m1, m2, Fo, hj, hbd⟩ := M.ex
        have lk := ty_looks Cc.K hI I R.c r2 ry et zt
        have nf := hE.at zt
        rw [← Cc.K] at nf
        unfold compareOp
        exact PySem.W.cmp_K (op := .Eq) (by have := Cc.hu; omega) Fr I.ok.mod.kin J1 lk nf m1 m2 (wpAny_mono (call_at (vs := [.ref ax, y]) Fo (Cc.hr.mono hj) rfl hbd Cc.tk I (.cons rfl (.cons r2 .nil)) ⟨w, st.c, [vx, vy], R.c, .cons rx (.cons ry .nil), rfl, postF_of R.v q⟩) (fun _ _ h => back_of h) fun _ _ h => h)
      · rw [if_neg zt] at q; exact q.elim
  · rw [if_neg z] at q
    exact o_eq Cc.K Cc.hu pins s σ H x y v u Q I r1 r2 ⟨w, st.c, vx, vy, R.c, rx, ry, give_of R q⟩
end
end FL

set_option Elab.async false
set_option linter.all false
set_option maxRecDepth 100000
set_option maxHeartbeats 4000000
/-! x != y by the class's own __eq__ -/
namespace FL
open PySem PySem.Spec PyProof.Rows L2 PySem.Builtin

section
variable {prog : Program} {w : World} {A : Around} {E : Value → Shared → Prop} {s : Shared} {K : PySem.W.Frag} {x C f : Addr} {ox od : Obj} {b tb : Value}
theorem looks_obj {D : Option Obj} (I : PySem.W.InstAt s.heap x ox C D) (X : K.In s.heap) (hm : PySem.W.mroIn K C (.type "object") = some true) : PySem.W.Looks (model prog w) s.heap (isInstance (.ref x) (.type "object")) true :=
  I.type.andThen (PySem.W.looks_mroIn X hm)
theorem ne_K {Q : Value → Shared → Prop} (hu : A.in1.units < cLine) (hu0 : A.units < cLine) (X : K.In s.heap) (I : PySem.W.InstAt s.heap x ox C (some od)) (hb : PySem.W.Looks (model prog w) s.heap (typeOf b) tb) (hn : PySem.W.notFirst K C tb = true)
    (hne : PySem.W.findIn K (.ref C) "__ne__" = some (some (.builtin "object.__ne__"))) (heq : PySem.W.findIn K (.ref C) "__eq__" = some (some (.ref f))) (hf : PySem.W.isFn K (.ref f) = true) (hm : PySem.W.mroIn K C (.type "object") = some true)
    (h : wpAny (model prog w) A.in1 (call (.ref f) [.ref x, b]) (fun v s' => ∃ c, v = .bool c ∧ Q (.bool (!c)) s') E s) : wpAny (model prog w) A (richCompare .NotEq (.ref x) b) Q E s := by
  have slot := PySem.F.cmp_object.ne
  have body : wpAny (model prog w) A (call (.builtin "object.__ne__") [.ref x, b]) (fun v s' => ∃ c, v = .bool c ∧ Q v s') E s := by
    refine wpAny_call (codeAny_call_builtin slot.plain PySem.F.cmpEntry_ne ?_)
    refine @PySem.W.check_slot (model prog w) _ _ s "object.__ne__" "object" "__ne__" (.ref x) [b] [] _ PySem.F.cmpKind_ne PySem.F.cmpSplit_ne (looks_obj I X hm) (PySem.F.cmpArgs_ne _ _) ?_
    unfold Builtin.«object.__ne__»
    repeat (first
      | with_reducible refine wpAny_cRoomFor hu ?_
      | (refine wpAny_bind (m := callSpecialIfBound? (.ref x) (Str.ofString "__eq__") [b]) (PySem.W.ifBound_K X I heq hf (wpAny_mono h (fun r s' hr => ?_) fun _ _ e => e)))
      | wp_step)
    obtain ⟨c, rfl, hq⟩ := hr
    repeat (first | exact ⟨_, rfl, hq⟩ | exact wpAny_pure ⟨_, rfl, hq⟩ | (refine wpAny_bind (m := truthy (.bool _)) (wpAny_truthy_bool ?_)) | wp_step)
  have one : wpAny (model prog w) A (tryCompare (.ref x) (cmpInfo .NotEq).2.1 b) (fun r s' => ∃ v, r = some v ∧ Q v s') E s := by
    unfold tryCompare
    simp only [callSpecialIfBound?, bindSpecialIfBound?]
    refine wpAny_bind ?_
    refine wpAny_holding (wpAny_bind (wpAny_bind (wpAny_bind (I.type.here ((PySem.W.looks_findIn X hne).here ?_)))))
    refine wpAny_bind (wpAny_askSetting (wpAny_ite ?_))
    have fin : wpAny (model prog w) A (call (.builtin "object.__ne__") ([.ref x] ++ [b]) >>= fun v => pure (some v)) (fun a s' => wpAny (model prog w) A (match a with
        | some Value.notImplemented => pure none
        | none => pure none
        | some v => pure (some v)) (fun r s' => ∃ v, r = some v ∧ Q v s') E s') E s := wpAny_bind (wpAny_mono body (fun v s' ⟨c, e, hq⟩ => by subst e; exact wpAny_pure (wpAny_pure ⟨_, rfl, hq⟩)) fun _ _ e => e)
    rw [slot.bind (.ref x)]
    split
    · exact wpAny_bind (wpAny_pure (wpAny_pure fin))
    · exact wpAny_tryCatch (wpAny_bind (wpAny_pure (wpAny_pure fin)))
  unfold richCompare
  simp only [oneThing_ref]
  refine wpAny_holding (wpAny_bind (wpAny_cRoomFor hu0 ?_))
  refine wpAny_bind (I.type.here (wpAny_bind (hb.here ?_)))
  split
  · rename_i q
    have e : PySem.W.subIn K tb (.ref C) = some false := by
      rcases Bool.or_eq_true_iff.mp hn with e | e
      · rw [beq_iff_eq.mp e] at q; simp at q
      · exact beq_iff_eq.mp e
    refine wpAny_bind ((PySem.W.looks_subIn X e).here ?_)
    simp only [Bool.false_eq_true, if_false]
    refine wpAny_bind (wpAny_mono one (fun r s' ⟨v, e, hq⟩ => ?_) fun _ _ e => e)
    subst e
    exact wpAny_pure hq
  · refine wpAny_bind (wpAny_pure ?_)
    simp only [Bool.false_eq_true, if_false]
    refine wpAny_bind (wpAny_mono one (fun r s' ⟨v, e, hq⟩ => ?_) fun _ _ e => e)
    subst e
    exact wpAny_pure hq
end
end FL

set_option Elab.async false
set_option linter.all false
set_option maxRecDepth 100000
set_option maxHeartbeats 4000000
namespace FL
open PySem PySem.Spec PyProof.Rows L2

section
variable {X : Cx} {G : Gx} {W : WX} {k : Nat}
/-! ### x != y -/
def notR (r : Res Val) : Res Val := match r with
  | .ok (.d (.bl b)) s => .ok (.d (.bl (!b))) s
  | .exc x s => .exc x s
  | _ => .bad
def neXO (Is : List Nat) (C : Nat) (F : FS) (o : O2) : OS := fun x y s => if isInsC C x s.c = true then (match tgV y s.c with
    | some t => if tgIn Is t = true then notR (liftF s.r (F [x, y] s.c)) else .bad
    | none => .bad)
  else optR (o x y s.c) s
theorem postE_not {w : Wd} {σ : L2.St} {r : Res Val} {Q : VK} (h : PostE G W σ w (notR r) fun w' H' _ d => ∀ v, RepV G w' v d → Q v H') :
    PostE G W σ w r fun w' H' _ d => ∀ v, RepV G w' v d → ∃ c, v = .bl c ∧ Q (.bl (!c)) H' := by
  cases r with
  | bad => exact h
  | exc x s => exact h
  | ok v s =>
    cases v with
    | rf j => exact h.elim
    | d d =>
      cases d with
      | bl b => exact fun w1 H1 l1 R1 v rv => by cases rv; exact ⟨b, rfl, h w1 H1 l1 R1 (.bl (!b)) (.bl (!b))⟩
      | _ => exact h.elim
theorem os_neX {Is : List Nat} {C : Nat} {F : FS} (Cc : Fx X G W k) (M : OwnM X G (k - 1) "__eq__" C 2 F) (hk : 1 ≤ k) (hne : PySem.W.findIn X.K (.ref (G.cl C)) "__ne__" = some (some (.builtin "object.__ne__"))) (hm : PySem.W.mroIn X.K (G.cl C) (.type "object") = some true)
    (hI : IsK G.K G.cl Is) (hE : EqK G.K G.cl Is C) : OpS X G W (compareOp .NotEq) (neXO Is C F neO) := by
  intro pins s σ H x y v u Q I r1 r2 ⟨w, st, vx, vy, R, rx, ry, q⟩
  unfold neXO at q
  by_cases z : isInsC C vx st.c = true
  · rw [if_pos z] at q
    obtain ⟨ax, dx, ux, e1, h1⟩ := isInsC_of R.c rx z
    subst e1
    obtain rfl : v = Value.ref ax := r1
    cases et : tgV vy st.c with
    | none => rw [et] at q; exact q.elim
    | some t =>
      rw [et] at q
      simp only at q
      by_cases zt : tgIn Is t = true
      · rw [if_pos zt] at q
        obtain ⟨ox, od, J1⟩ := inst_of I h1
        obtain ⟨f, fd, ps, j, m1, m2, Fo, hj, hbd⟩ := M.ex
        have lk := ty_looks Cc.K hI I R.c r2 ry et zt
        have nf := hE.at zt
        rw [← Cc.K] at nf
        have hr : Room (j + 1) X.A := Cc.hr.mono (by omega)
        unfold compareOp
        refine ne_K (by have := hr.in1.units0; exact this) hr.units0 I.kIn J1 lk nf hne m1 m2 hm (wpAny_mono (call_at (A := X.A.in1) (Q := fun v H => ∃ c, v = .bl c ∧ Q (.bl (!c)) H) (vs := [.ref ax, y]) Fo hr.in1 rfl hbd Cc.tk I (.cons rfl (.cons r2 .nil)) ⟨w, st.c, [vx, vy], R.c, .cons rx (.cons ry .nil), rfl, postF_of R.v (postE_not q)⟩) (fun v' s' hv => ?_) fun _ _ h => h)
        obtain ⟨b, H', I', rb, c, rfl, hq⟩ := hv
        obtain rfl : v' = Value.bool c := rb
        exact ⟨c, rfl, .bl (!c), H', I', rfl, hq⟩
      · rw [if_neg zt] at q; exact q.elim
  · rw [if_neg z] at q
    exact o_ne Cc.K Cc.hu pins s σ H x y v u Q I r1 r2 ⟨w, st.c, vx, vy, R.c, rx, ry, give_of R q⟩

/-! ### classes as values -/
theorem ef_gcl {C : Nat} {x : Str} {pos : Pos} (hg : Gl X x) (hm : X.mg x = some (.ref (G.cl C))) (hd : (x == ("__debug__" : Str)) = false := by decide) : EF X G W (.Name x pos) (cF (.cl C)) := ef_c (pe_glob (v := .ref (G.cl C)) hg hm rfl hd) fun _ => .cl C
theorem ef_bty {T : String} {x : Str} {pos : Pos} (hg : Gl X x) (hm : X.mg x = none) (hv : bootBuiltins x = some (.type T)) (hn : x ≠ "__name__" := by decide) (hd : (x == ("__debug__" : Str)) = false := by decide) : EF X G W (.Name x pos) (cF (.ty T)) := ef_c (pe_bltn (v := .ty T) hg hm hv rfl hn hd) fun _ => .ty T
/-- a module's number, text -/
theorem ef_gint {i : Int} {x : Str} {pos : Pos} (hg : Gl X x) (hm : ∃ t, X.mg x = some (.int i t)) (hd : (x == ("__debug__" : Str)) = false := by decide) : EF X G W (.Name x pos) (cF (.int i)) := by
  obtain ⟨t, e⟩ := hm
  exact ef_c (pe_glob (v := .int i) hg e ⟨t, rfl⟩ hd) fun _ => .int i
theorem ef_gstr {z : Str} {x : Str} {pos : Pos} (hg : Gl X x) (hm : ∃ t, X.mg x = some (.str z t)) (hd : (x == ("__debug__" : Str)) = false := by decide) : EF X G W (.Name x pos) (cF (.str z)) := by
  obtain ⟨t, e⟩ := hm
  exact ef_c (pe_glob (v := .str z) hg e ⟨t, rfl⟩ hd) fun _ => .str z
/-- C.m(e, ..), m a classmethod -/
def cmF (C : Nat) (F : FS) (n : Nat) (g : S → Res (List Val)) : S → Res Val := callF (fun xs cs => F (.d (.cl C) :: xs) cs) n g
theorem ef_cmeth {C : Nat} {F : FS} {n j : Nat} {mc : Value} {p gf : Addr} {fd : FuncData} {ps : List Str} {o e : Expr} {es : List Expr} {m : Str} {pos apos : Pos} {g : S → Res (List Val)} {pl : Sem Bool} (Cc : Fx X G W k) (ho : EF X G W o (cF (.cl C))) (r : ClX.CRead X.K (G.cl C) mc) (c : ClX.CMet X.K (G.cl C) mc m p gf)
    (Fo : FnOk X.prog X.w X.K X.mg X.base (L2.CX X.prog X.w) j gf fd ps (spF G (n + 1) F)) (hj : j ≤ k) (hb : Binds X.K fd ps []) (ha : AF X G W (e :: es) g)
    (hst : starEach (e :: es) X.env = (false, eval e X.env) :: starEach es X.env := by rfl) (hpl : (backTo pos (starEach es X.env)).any (·.1) = false := by rfl)
    (ht : eval (.Call (.Attribute o m apos) (e :: es) [] pos) X.env = (do
      let ov ← eval o X.env
      standAt apos.atName
      let (f, first) ← holding [ov] (getMethod ov m pl)
      callWith pos f first (backTo pos (starEach (e :: es) X.env)) (backToKw pos (keywordEach [] X.env))) := by rfl) :
    EF X G W (.Call (.Attribute o m apos) (e :: es) [] pos) (cmF C F n g) := by
  refine ⟨fun pins s σ H Q I ⟨w, st, R, q⟩ => ?_⟩
  have ev := ho.run pins s σ H (fun v H1 => v = .ref (G.cl C) ∧ ∃ w1, w.le w1 ∧ Rel G w1 st σ H1) I ⟨w, st, R, fun w1 H1 l1 R1 v rv => ⟨by cases rv; rfl, w1, l1, R1⟩⟩
  refine PySem.W.methodCall_KW (pl := pl) (thn ev fun u s1 ⟨x, H1, I1, rx, ex, w1, l1, R1⟩ => ?_) ht
  subst ex
  obtain rfl : u = Value.ref (G.cl C) := rx
  refine ClX.getmethcm_ok I1 r c fun s2 I2 => ?_
  have ea := ha.run pos _ s2 σ H1 (fun vs H2 => ∃ w2 s2 xs, w1.le w2 ∧ Rel G w2 s2 σ H2 ∧ RepVs G w2 vs xs ∧ PostE G W σ w2 (if xs.length = n then liftF s2.r (F (.d (.cl C) :: xs) s2.c) else .bad) (fun w' H' _ d => ∀ v, RepV G w' v d → Q v H')) I2 ⟨w1, st, R1, (PostE.le q l1).bind fun w2 H2 s2 xs l2 R2 q3 vs rvs => ⟨w2, s2, xs, l2, R2, rvs, q3⟩⟩
  refine ClX.callwith_cm I2 (ClX.base_none I1 (Nat.le_refl _)) c.fi (thn ea fun us s3 ⟨vs, H2, I3, rv, w2, st2, xs, l2, R2, rvs, q3⟩ => ⟨⟨ClX.pin_at I3, I3.kIn⟩, ?_⟩) hst hpl
  by_cases hn : xs.length = n
  · rw [if_pos hn] at q3
    have z : wpAny (model X.prog X.w) X.A (call (.ref s1.heap.objs.size) us) (EP X _ σ Q) X.xe s3 := wpAny_call (PySem.W.method_call (ClX.pin_at I3)
      (codeAny_mono (run_at (us := .ref (G.cl C) :: us) (vs := .ref (G.cl C) :: vs) Fo (Cc.hr.mono hj) rfl hb Cc.tk I3 (.cons rfl rv) ⟨w2, st2.c, .d (.cl C) :: xs, R2.c, .cons (.cl C) rvs, by simp [hn], postF_of R2.v q3⟩) fun q' s' hq => by
        cases q' with
        | error e => exact hq
        | ok fl => cases fl <;> exact hq))
    exact thn z fun _ _ y => ClX.unpinE y
  · rw [if_neg hn] at q3; exact q3.elim
/-- c(e, ..), c a name that holds the class C -/
def isCl (C : Nat) (i : Nat) (st : S) : Bool := match st.r[i]? with
  | some (some (.d (.cl C'))) => C' == C
  | _ => false
def makeLF (i C : Nat) (F : FS) (m : Nat) (g : S → Res (List Val)) : S → Res Val := fun st => if isCl C i st = true then makeF C F m g st else .bad
theorem ef_makeL {C i : Nat} {F : FS} {m j : Nat} {f : Addr} {fd : FuncData} {ps : List Str} {x : Str} {p pos : Pos} {e : Expr} {es : List Expr} {g : S → Res (List Val)} (Cc : Fx X G W k) (M : Mk X.K (G.cl C) f) (Fo : FnOk X.prog X.w X.K X.mg X.base (L2.CX X.prog X.w) j f fd ps (spF G (m + 1) F)) (hj : j + 1 ≤ k)
    (hn : PE X (.Name x p) (tVar i)) (hb : Binds X.K fd ps []) (ha : AF X G W (e :: es) g) (he : starEach (e :: es) X.env = (false, eval e X.env) :: starEach es X.env := by rfl) (hpl : (backTo pos (starEach es X.env)).any (·.1) = false := by rfl) :
    EF X G W (.Call (.Name x p) (e :: es) [] pos) (makeLF i C F m g) := by
  refine ⟨fun pins s σ H Q I ⟨w, st, R, q⟩ => ?_⟩
  unfold makeLF at q
  by_cases z : isCl C i st = true
  · rw [if_pos z] at q
    unfold isCl at z
    split at z
    · rename_i C' hC
      obtain rfl : C' = C := by simpa using z
      obtain ⟨v, ev, rv⟩ := R.v.ok i _ hC
      cases rv
      refine wpAny_Call_Name_kw (thn (hn.run pins s σ H (fun v H1 => v = .ref (G.cl C') ∧ H1 = H) I ⟨_, ev, rfl, rfl⟩) fun u s1 ⟨v, H1, I1, r1, e1, e2⟩ => ?_)
      subst e1 e2
      obtain rfl : u = Value.ref (G.cl C') := r1
      refine PySem.W.callWith_K (h₀ := X.base) I.ok.mod.kin M.kp (thn (ha.run pos pins s1 σ _ _ I1 (make_of ⟨w, st, R, q⟩)) fun us s1 ⟨vs, H1, I1, r, q⟩ => ⟨I1.kIn, ?_⟩) he hpl
      exact run_mkS (E := fun cls d H => W cls d σ H) M Fo (Cc.hr.mono hj) hb (fun pins' H' s' e' s'' I' c => Cc.tk e' s'' (XE.of_call I' (fun _ _ _ h => h) c)) I1 r q
    · cases z
  · rw [if_neg z] at q; exact q.elim

/-! ### gcd, str, texts -/
theorem ef_callBf {o : ON} {id : String} {x : Str} {p pos : Pos} {e : Expr} {es : List Expr} {g : S → Res (List Val)} (hc : CallR X (.builtin id) (rN G o)) (hg : Gl X x) (hm : X.mg x = some (.builtin id)) (ha : AF X G W (e :: es) g) (hdb : (x == ("__debug__" : Str)) = false := by decide)
    (he : starEach (e :: es) X.env = (false, eval e X.env) :: starEach es X.env := by rfl) (hpl : (backTo pos (starEach es X.env)).any (·.1) = false := by rfl) : EF X G W (.Call (.Name x p) (e :: es) [] pos) (cbF o g) := (L2.pe_callBfun hc hg hm ha hdb he hpl).imp fun _ _ _ h => rN_of h
def gcdO : ON := fun xs _ => match xs with
  | [.d (.int a), .d (.int b)] => some (.d (.int ((Nat.gcd a.natAbs b.natAbs : Nat) : Int)))
  | _ => none
theorem ob_gcd : CallR X (.builtin "math.gcd") (rN G gcdO) := L2.cr_gcd.imp fun vs H Q ⟨w, cs, ds, R, r, q⟩ => by
  unfold gcdO at q
  split at q
  · rename_i a b
    obtain ⟨v, u, rfl, rv, ru⟩ := repVs_two r
    cases rv
    cases ru
    exact ⟨a, b, rfl, Give.here R q (.int _)⟩
  · exact q.elim
def smallI (i : Int) : Bool := decide (i.natAbs.log2 < 1920)
def strO : ON := fun xs _ => match xs with
  | [.d (.int i)] => if smallI i = true then some (.d (.str (toString i))) else none
  | [.d (.str a)] => some (.d (.str a))
  | _ => none
theorem ob_str : CallR X (.type "str") (rN G strO) := (call_str_int.or SkE.call_str_str).imp fun vs H Q ⟨w, cs, ds, R, r, q⟩ => by
  unfold strO at q
  split at q
  · rename_i i
    obtain ⟨v, rfl, rv⟩ := repVs_one r
    cases rv
    obtain ⟨z, q⟩ := Give.if q
    exact .inl ⟨i, rfl, of_decide_eq_true z, Give.here R q (.str _)⟩
  · rename_i a
    obtain ⟨v, rfl, rv⟩ := repVs_one r
    cases rv
    exact .inr ⟨a, rfl, Give.here R q (.str _)⟩
  · exact q.elim
/-- {e} in an f-string -/
def fmtO : O1 := fun x _ => match x with
  | .d (.int i) => if smallI i = true then some (.d (.str (toString i))) else none
  | .d (.str a) => if sz a.length = true then some (.d (.str a)) else none
  | _ => none
theorem ef_fmt {e : Expr} {f : S → Res Val} {pos : Pos} (h : EF X G W e f) : EF X G W (.FormattedValue e (-1) none pos) (unF fmtO f) := (pe_fmt h).imp fun σ H Q ⟨w, st, R, q⟩ => by
  refine ⟨w, st, R, q.bind fun w1 H1 s1 x l1 R1 q1 v rv => ?_⟩
  have g := give_of R1 q1
  unfold fmtO at g
  split at g
  · rename_i i
    cases rv
    obtain ⟨z, g⟩ := Give.if g
    exact .inr ⟨i, rfl, of_decide_eq_true z, Give.here R1.c g (.str _)⟩
  · rename_i a
    cases rv
    obtain ⟨z, g⟩ := Give.if g
    exact .inl ⟨a, rfl, sz_le z, Give.here R1.c g (.str _)⟩
  · exact g.elim
def js1 (fs : Str → S → Res Val) (acc : Str) (x : Val) (s : S) : Res Val := match x with
  | .d (.str y) => if sz ((acc ++ y).length) = true then fs (acc ++ y) s else .bad
  | _ => .bad
def jsF : List (S → Res Val) → Str → S → Res Val
  | [], acc, s => .ok (.d (.str acc)) s
  | f :: fs, acc, s => bindR (f s) (js1 (jsF fs) acc)
inductive JF (X : Cx) (G : Gx) (W : WX) : List Expr → List (S → Res Val) → Prop
  | nil : JF X G W [] []
  | cons {e : Expr} {f : S → Res Val} {es : List Expr} {fs : List (S → Res Val)} (h : EF X G W e f) (r : JF X G W es fs) : JF X G W (e :: es) (f :: fs)
theorem JF.pj : ∀ {es : List Expr} {fs : List (S → Res Val)}, JF X G W es fs → PJ X es (fs.map fun f => tI G W f)
  | _, _, .nil => .nil
  | _, _, .cons h r => .cons h (JF.pj r)
theorem js_of : ∀ {fs : List (S → Res Val)} {acc : Str} {σ : L2.St} {H : Hp} {Q : VK} {w : Wd} {st : S}, Rel G w st σ H → PostE G W σ w (jsF fs acc st) (fun w' H' _ d => ∀ v, RepV G w' v d → Q v H') → tJs (fs.map fun f => tI G W f) acc σ H fun out H1 => Q (.str out) H1
  | [], acc, σ, H, Q, w, st, R, q => q w H (.refl w) R (.str acc) (.str acc)
  | f :: fs, acc, σ, H, Q, w, st, R, q => by
    refine ⟨w, st, R, PostE.bind q fun w1 H1 s1 x l1 R1 q1 v rv => ?_⟩
    unfold js1 at q1
    split at q1
    · rename_i y
      cases rv
      split at q1
      · rename_i z
        exact ⟨y, rfl, sz_le z, js_of R1 q1⟩
      · exact q1.elim
    · exact q1.elim
theorem ef_joined {v1 v2 : Expr} {rest : List Expr} {fs : List (S → Res Val)} {pos : Pos} (h : JF X G W (v1 :: v2 :: rest) fs) : EF X G W (.JoinedStr (v1 :: v2 :: rest) pos) (jsF fs Str.empty) := (pe_joined h.pj).imp fun σ H Q ⟨w, st, R, q⟩ => js_of R q
/-! ### is None -/
def isNB (x : Val) : Bool := match x with
  | .d .non => true
  | _ => false
theorem isNB_of {w : Wd} {v : V} {x : Val} (r : RepV G w v x) : decide (v = .non) = isNB x := by
  cases x with
  | rf j => obtain ⟨a, _, rfl⟩ := r; exact decide_eq_false (fun z => by cases z)
  | d d => cases r <;> first | exact decide_eq_true rfl | exact decide_eq_false (fun z => by cases z)
def isNO : O2 := fun x y _ => if isNB y = true then some (.d (.bl (isNB x))) else none
def isntNO : O2 := fun x y _ => if isNB y = true then some (.d (.bl (!isNB x))) else none
theorem isN_v {w : Wd} {v : V} {x : Val} (r : RepV G w v x) (h : isNB x = true) : v = .non := by
  cases x with
  | rf j => cases h
  | d d => cases d <;> first | (cases r; rfl) | cases h
theorem o_isN : OpF X G (compareOp .Is) isNO := op_isN.imp fun x y H Q ⟨w, cs, dx, dy, R, rx, ry, q⟩ => by
  unfold isNO at q
  obtain ⟨z, q⟩ := Give.if q
  exact ⟨isN_v ry z, by rw [isNB_of rx]; exact Give.here R q (.bl _)⟩
theorem o_isntN : OpF X G (compareOp .IsNot) isntNO := op_notN.imp fun x y H Q ⟨w, cs, dx, dy, R, rx, ry, q⟩ => by
  unfold isntNO at q
  obtain ⟨z, q⟩ := Give.if q
  exact ⟨isN_v ry z, by rw [isNB_of rx]; exact Give.here R q (.bl _)⟩
/-! ### repr(x), x an instance with its own __repr__ -/
def reprR (r : Res Val) : Res Val := match r with
  | .ok (.d (.str y)) s => .ok (.d (.str y)) s
  | .exc x s => .exc x s
  | _ => .bad
def k_repr (C : Nat) (F : FS) (x : Val) (s : S) : Res Val := if isInsC C x s.c = true then reprR (liftF s.r (F [x] s.c)) else .bad
def reprXF (C : Nat) (F : FS) (f : S → Res Val) : S → Res Val := fun st => bindR (f st) (k_repr C F)
theorem ef_reprX {C : Nat} {F : FS} {p pos : Pos} {e : Expr} {f : S → Res Val} (Cc : Fx X G W k) (M : OwnM X G (k - 1) "__repr__" C 1 F) (hk : 1 ≤ k) (hg : Gl X "repr") (hm : X.mg "repr" = none) (hv : bootBuiltins "repr" = some (.builtin "repr")) (h : EF X G W e f)
    (he : starEach [e] X.env = (false, eval e X.env) :: starEach [] X.env := by rfl) : EF X G W (.Call (.Name "repr" p) [e] [] pos) (reprXF C F f) := by
  refine ⟨fun pins s σ H Q I ⟨w, st, R, q⟩ => ?_⟩
  refine wpAny_Call_Name_kw (ld_blt I hg hm hv ?_ (by decide) (by decide))
  have ea := (pa_cons h pa_nil he).run pos pins s σ H (fun vs H1 => ∃ v w1 s1 x, vs = [v] ∧ Rel G w1 s1 σ H1 ∧ RepV G w1 v x ∧ PostE G W σ w1 (k_repr C F x s1) (fun w' H' _ d => ∀ v, RepV G w' v d → Q v H')) I ⟨w, st, R, q.bind fun w1 H1 s1 x l1 R1 q1 v rv => ⟨v, w1, s1, x, rfl, R1, rv, q1⟩⟩
  refine PyProof.Rows.callWith_builtin1 (thn ea fun us s1 ⟨vs, H1, I1, r1, v, w1, st1, x, e1, R1, rv, q1⟩ => ?_) he rfl
  subst e1
  obtain ⟨u, rfl, ru⟩ := vals1 r1
  unfold k_repr at q1
  by_cases z : isInsC C x st1.c = true
  · rw [if_pos z] at q1
    obtain ⟨ax, dx, ux, e2, h1⟩ := isInsC_of R1.c rv z
    subst e2
    obtain rfl : u = Value.ref ax := ru
    obtain ⟨ox, od, J1⟩ := inst_of I1 h1
    obtain ⟨m, Fr⟩ := I1.fr
    obtain ⟨fa, fd, ps, j, m1, m2, Fo, hj, hbd⟩ := M.ex
    have hr : Room (j + 1) X.A := Cc.hr.mono (by omega)
    have pp : PostE G W σ w1 (liftF st1.r (F [x] st1.c)) (fun w' H' _ d => ∀ v, RepV G w' v d → ∃ y : Str, v = .str y ∧ Q v H') := by
      cases ef : liftF st1.r (F [x] st1.c) with
      | bad => rw [ef] at q1; exact q1
      | exc y s2 => rw [ef] at q1; exact q1
      | ok v s2 =>
        rw [ef] at q1
        cases v with
        | rf j => exact q1.elim
        | d d =>
          cases d with
          | str y => exact fun w2 H2 l2 R2 v rv => by cases rv; exact ⟨y, rfl, q1 w2 H2 l2 R2 _ (.str y)⟩
          | _ => exact q1.elim
    refine PySem.W.repr_K (by have := hr.in1.units0; exact this) Fr I1.ok.mod.kin J1 m1 m2 (wpAny_mono (call_at (A := X.A.in1) (Q := fun v H => ∃ y : Str, v = .str y ∧ Q v H) (vs := [.ref ax]) Fo hr.in1 rfl hbd Cc.tk I1 (.cons rfl .nil) ⟨w1, st1.c, [x], R1.c, .cons rv .nil, rfl, postF_of R1.v pp⟩) (fun v' s' hv => ?_) fun _ _ h => h)
    obtain ⟨b, H', I', rb, y, rfl, hq⟩ := hv
    obtain ⟨t, rfl⟩ := rb
    exact ⟨.str y, H', I', ⟨t, rfl⟩, hq⟩
  · rw [if_neg z] at q1; exact q1.elim
end
end FL

set_option Elab.async false
set_option linter.all false
set_option maxRecDepth 100000
set_option maxHeartbeats 4000000
/-! what the written part says, as tests -/
namespace FL
open PySem PySem.Spec PyProof.Rows L2
open He (ga ma fAd ba)

section
variable {K : PySem.W.Frag} {mg : Str → Option Value}
/-- the class ids of a law: their names in the module -/
def clOf (K : PySem.W.Frag) (nm : List Str) (i : Nat) : Addr := ga K (nm.getD i "")
def clsB (K : PySem.W.Frag) (C : Addr) : Bool := PySem.W.plainGet K C Str.empty && (PySem.W.hasDictIn K C && (PySem.W.plainOver K C && He.eqO (PySem.W.findIn K (.ref C) "__setattr__") (some (some (.builtin "object.__setattr__")))))
theorem clsB_ok {C : Addr} (h : clsB K C = true) : Cls K C := by
  obtain ⟨h1, h⟩ := ba h
  obtain ⟨h2, h⟩ := ba h
  obtain ⟨h3, h4⟩ := ba h
  exact ⟨h1, h2, h3, He.eqO_ok h4⟩
def insB (K : PySem.W.Frag) (C : Addr) : Bool := clsB K C && (He.eqO (PySem.W.findIn K (.ref C) "__class__") (some (some (.builtin "object.__class__"))) && (He.eqO (PySem.W.specialIn K (.builtin "object.__class__") "__get__") (some (some (.builtin "getset_descriptor.__get__"))) &&
  (decide (PySem.W.takesIn K (.builtin "object.__class__") = some true) && decide (PySem.W.mroIn K C (.type "object") = some true))))
theorem insB_ok {C : Addr} (h : insB K C = true) : InsK K C := by
  obtain ⟨h1, h⟩ := ba h
  obtain ⟨h2, h⟩ := ba h
  obtain ⟨h3, h⟩ := ba h
  obtain ⟨h4, h5⟩ := ba h
  exact ⟨clsB_ok h1, He.eqO_ok h2, He.eqO_ok h3, of_decide_eq_true h4, of_decide_eq_true h5⟩
theorem all_of {α : Type} {l : List α} {p : α → Bool} (h : l.all p = true) : ∀ a ∈ l, p a = true := fun a ha => List.all_eq_true.mp h a ha
def isB (K : PySem.W.Frag) (cl : Nat → Addr) (Is : List Nat) : Bool := Is.all (fun C => insB K (cl C)) && (Is.all (fun C => tyL.all fun a => decide (PySem.W.kitOne K (.type a) (.ref (cl C)) = some false)) &&
  (Is.all (fun C => tyL.all fun a => decide (PySem.W.kitOne K (.ref (cl C)) (.type a) = some false)) && Is.all fun C => Is.all fun D => decide (PySem.W.kitOne K (.ref (cl C)) (.ref (cl D)) = some (decide (C = D)))))
theorem isB_ok {cl : Nat → Addr} {Is : List Nat} (h : isB K cl Is = true) : IsK K cl Is := by
  obtain ⟨h1, h⟩ := ba h
  obtain ⟨h2, h⟩ := ba h
  obtain ⟨h3, h4⟩ := ba h
  exact ⟨fun C hC => insB_ok (all_of h1 C hC), fun C hC a ha => of_decide_eq_true (all_of (all_of h2 C hC) a ha), fun C hC a ha => of_decide_eq_true (all_of (all_of h3 C hC) a ha), fun C hC D hD => of_decide_eq_true (all_of (all_of h4 C hC) D hD)⟩
def eqKB (K : PySem.W.Frag) (cl : Nat → Addr) (Is : List Nat) (C : Nat) : Bool := (tyL.all fun a => PySem.W.notFirst K (cl C) (.type a)) && Is.all fun D => PySem.W.notFirst K (cl C) (.ref (cl D))
theorem eqKB_ok {cl : Nat → Addr} {Is : List Nat} {C : Nat} (h : eqKB K cl Is C = true) : EqK K cl Is C := by
  obtain ⟨h1, h2⟩ := ba h
  exact ⟨all_of h1, all_of h2⟩
def noAtB (K : PySem.W.Frag) (C : Addr) (fs : List Str) : Bool := fs.all fun f => He.eqO (PySem.W.findIn K (.ref C) f) (some none)
theorem noAtB_ok {C : Addr} {fs : List Str} (h : noAtB K C fs = true) {f : Str} (hf : f ∈ fs) : PySem.W.findIn K (.ref C) f = some none := He.eqO_ok (all_of h f hf)
/-! errors -/
def oexB (K : PySem.W.Frag) (C : Addr) : Bool := (match K.lookup C with
  | some ⟨.type "type", _, .cls cd, sl⟩ => (match cd.mro, sl.toList with
    | .ref C' :: bm, [_, _, _, _, some (.builtin n), _] => C' == C && (n == "ValueError.__new__" && (!cd.hasDel && (cd.hasDict && PySem.HandSPX.refsVE bm)))
    | _, _ => false)
  | _ => false) && (He.eqO (PySem.W.findIn K (.ref C) "__setattr__") (some (some (.builtin "object.__setattr__"))) && (decide (PySem.W.subIn K (.ref C) (.type "BaseException") = some true) && (decide (PySem.W.typeIn K (.ref C) = some (.type "type")) && PySem.W.keepIn K (.ref C))))
theorem oexB_ok {C : Addr} (h : oexB K C = true) : OexC K C := by
  obtain ⟨h1, h⟩ := ba h
  obtain ⟨h2, h⟩ := ba h
  obtain ⟨h3, h⟩ := ba h
  obtain ⟨h4, h5⟩ := ba h
  refine ⟨?_, He.eqO_ok h2, of_decide_eq_true h3, of_decide_eq_true h4, h5⟩
  split at h1
  · rename_i dd cd sl ho
    split at h1
    · rename_i C' bm k0 k1 k2 k3 n k5 hm hs
      obtain ⟨z1, h1⟩ := ba h1
      obtain ⟨z2, h1⟩ := ba h1
      obtain ⟨z3, h1⟩ := ba h1
      obtain ⟨z4, z5⟩ := ba h1
      obtain rfl : C' = C := by simpa using z1
      obtain rfl : n = "ValueError.__new__" := by simpa using z2
      obtain ⟨nm, bs, mro, ns, qn, hd, sn, sub, ab, col, del⟩ := cd
      dsimp only at hm z3 z4
      have z3' : del = false := by simpa using z3
      subst hm z3' z4
      have hsl : sl = #[k0, k1, k2, k3, some (.builtin "ValueError.__new__"), k5] := by
        obtain ⟨l⟩ := sl
        simp only at hs
        rw [hs]
      subst hsl
      exact ⟨nm, qn, ns, bs, bm, sn, sub, ab, col, dd, k0, k1, k2, k3, k5, ho, z5⟩
    · cases h1
  · cases h1
/-- the errors with ids 0 .. n - 1; 0 the base -/
def errsB (K : PySem.W.Frag) (cl : Nat → Addr) (n : Nat) : Bool := (List.range n).all fun c => xfB K (cl c) && (List.range n).all fun d => decide (PySem.W.exmOne K (.ref (cl c)) (.ref (cl d)) = some (c == d || d == 0))
structure ErrK (K : PySem.W.Frag) (cl : Nat → Addr) (n : Nat) : Prop where
  xf : ∀ c, c ≤ n → XfC K (cl c)
  ef : ∀ c d, c ≤ n → d ≤ n → PySem.W.exmOne K (.ref (cl c)) (.ref (cl d)) = some (c == d || d == 0)
theorem errsB_ok {cl : Nat → Addr} {n : Nat} (h : errsB K cl (n + 1) = true) : ErrK K cl n := by
  refine ⟨fun c hc => ?_, fun c d hc hd => ?_⟩
  · exact xfB_ok (ba (all_of h c (List.mem_range.mpr (by omega)))).1
  · exact of_decide_eq_true (all_of (ba (all_of h c (List.mem_range.mpr (by omega)))).2 d (List.mem_range.mpr (by omega)))
/-- .. as the clauses of a try ask -/
def subL (n : Nat) : Sub := fun c d => if c ≤ n ∧ d ≤ n then some (c == d || d == 0) else none
theorem subL_le {n c d : Nat} {b : Bool} (h : subL n c d = some b) : c ≤ n := by
  unfold subL at h
  split at h
  · rename_i z; exact z.1
  · cases h
theorem ErrK.f {cl : Nat → Addr} {n : Nat} (h : ErrK K cl n) : ErrF K cl (subL n) := ⟨fun c d b e => by
  unfold subL at e
  split at e
  · rename_i z; cases e; exact h.ef c d z.1 z.2
  · cases e⟩
/-! defs -/
structure FnT (K : PySem.W.Frag) (mg : Str → Option Value) (x : Str) (ps : List Str) (st : Stmt) where
  f : Addr
  d : FuncData
  F : Fun K x x st f d
  g : mg x = some (.ref f)
  b : Binds K d ps []
  e : ∀ us : List Value, us.length = ps.length → bindArgs d ⟨us, []⟩ = pure (ps.zip us)
/-- a method, a def of a class -/
structure MtT (K : PySem.W.Frag) (C : Addr) (m qual : Str) (ps : List Str) (st : Stmt) where
  f : Addr
  d : FuncData
  F : Fun K m qual st f d
  at_ : PySem.W.findIn K (.ref C) m = some (some (.ref f))
  fn : PySem.W.isFn K (.ref f) = true
  b : Binds K d ps []
def codeB (K : PySem.W.Frag) (f : Addr) (q : Str) : Bool := (match K.lookup f with
  | some ⟨_, _, .func fd, _⟩ => PySem.W.codeIn K fd.code q
  | _ => false) && PySem.W.keepIn K (.ref f)
def fnVal (K : PySem.W.Frag) (f : Addr) : He.FnV := match K.lookup f with
  | some ⟨_, _, .func fd, _⟩ => some (fd.name, fd.qualname, fd.params, fd.body, fd.scope, fd.globals, fd.closure, fd.defaults, fd.builtins)
  | _ => none
def stVal (x q : Str) (st : Stmt) : He.FnV := some (x, q, defArgs st, .stmts (defBody st), defScope st, mainGlobals, [], .none, builtinsNs)
theorem fun_of {x q : Str} {st : Stmt} {f : Addr} (e : fnVal K f = stVal x q st) (c : codeB K f q = true) : ∃ d, Fun K x q st f d := by
  obtain ⟨c1, c2⟩ := ba c
  unfold fnVal at e
  cases z : K.lookup f with
  | none => rw [z] at e; cases e
  | some o =>
    obtain ⟨oc, od, dt, osl⟩ := o
    rw [z] at e c1
    cases dt with
    | func fd =>
      obtain ⟨n1, n2, n3, n4, n5, n6, n7, n8, n9, n10, n11, n12, n13, n14, n15⟩ := fd
      have e2 : (some (n1, n2, n3, n4, n5, n6, n7, n8, n15) : He.FnV) = some (x, q, defArgs st, .stmts (defBody st), defScope st, mainGlobals, [], .none, builtinsNs) := e
      simp only [Option.some.injEq, Prod.mk.injEq] at e2
      obtain ⟨h1, h2, h3, h4, h5, h6, h7, h8, h9⟩ := e2
      subst h1 h2 h3 h4 h5 h6 h7 h8 h9
      exact ⟨_, fun_mk (st := st) z c1 c2⟩
    | _ => cases e
abbrev BindH (x q : Str) (ps : List Str) (st : Stmt) : Prop := ∀ (kV doc pm : Value) (an : Option Addr) (cdv ct : Value) (us : List Value), us.length = ps.length → bindArgs (PySem.W.fnOf x q (defArgs st) (defBody st) (defScope st) .none kV doc pm an cdv ct) ⟨us, []⟩ = pure (ps.zip us)
theorem _root_.L2.Fun.eqs {x qual : Str} {st : Stmt} {f : Addr} {fd : FuncData} {ps : List Str} (F : Fun K x qual st f fd) (hb : BindH x qual ps st) : ∀ us : List Value, us.length = ps.length → bindArgs fd ⟨us, []⟩ = pure (ps.zip us) := by
  obtain ⟨oc, od, kV, doc, pm, an, cdv, ct, osl, rfl, lk, hcd⟩ := F.ex
  exact hb kV doc pm an cdv ct
theorem fnT_of {h : Heap} {x : Str} {ps : List Str} {st : Stmt} (X : K.In h) (G : h.Ns mainGlobals mg) (hb : BindH x x ps st) (gl : (He.Fa.glo x).ok K = true) (e : fnVal K (ga K x) = stVal x x st) (c : codeB K (ga K x) x = true) : Nonempty (FnT K mg x ps st) := by
  obtain ⟨d, F⟩ := fun_of e c
  exact ⟨⟨_, d, F, He.glo_ok X G gl, F.binds hb, F.eqs hb⟩⟩
theorem mtT_of {C : Addr} {m q : Str} {ps : List Str} {st : Stmt} (hb : BindH m q ps st) (gl : (He.eqO (PySem.W.findIn K (.ref C) m) (some (some (.ref (ma K C m)))) && PySem.W.isFn K (.ref (ma K C m))) = true) (e : fnVal K (ma K C m) = stVal m q st) (c : codeB K (ma K C m) q = true) : Nonempty (MtT K C m q ps st) := by
  obtain ⟨d, F⟩ := fun_of e c
  obtain ⟨g1, g2⟩ := ba gl
  exact ⟨⟨_, d, F, He.eqO_ok g1, g2, F.binds hb⟩⟩
theorem MtT.meth {C : Addr} {m q : Str} {ps : List Str} {st : Stmt} (T : MtT K C m q ps st) : Meth K C m T.f := ⟨T.at_, T.fn, T.F.kp⟩
def mkB (K : PySem.W.Frag) (C : Addr) : Bool := PySem.W.makesIn K C && PySem.W.keepIn K (.ref C)
theorem mkB_ok {C : Addr} {q : Str} {ps : List Str} {st : Stmt} (h : mkB K C = true) (T : MtT K C "__init__" q ps st) : Mk K C T.f := by
  obtain ⟨h1, h2⟩ := ba h
  exact ⟨h1, T.at_, T.fn, h2⟩
/-- a classmethod, its def -/
structure CmT (K : PySem.W.Frag) (C : Addr) (m qual : Str) (ps : List Str) (st : Stmt) where
  mc : Value
  p : Addr
  f : Addr
  d : FuncData
  F : Fun K m qual st f d
  r : ClX.CRead K C mc
  c : ClX.CMet K C mc m p f
  b : Binds K d ps []
/-- where the record of C's classmethod m stands, where its def -/
def cmAt (K : PySem.W.Frag) (C : Addr) (m : Str) : Addr := match PySem.W.findCls K (.ref C) (.type "type") m with
  | some (.get _ (.ref p) _ _) => p
  | _ => 0
def cmFn (K : PySem.W.Frag) (p : Addr) : Addr := match PySem.W.recIn K p "classmethod" with
  | some (.ref g :: _) => g
  | _ => 0
def cmB (K : PySem.W.Frag) (C : Addr) (m : Str) : Bool := PySem.W.readsIn K C (.type "type") && (He.eqO (PySem.W.specialIn K (.ref C) "__getattribute__") (some (some (.builtin "type.__getattribute__"))) &&
  ((match PySem.W.findCls K (.ref C) (.type "type") m with
    | some (.get (.builtin "classmethod.__get__") (.ref p) .none (.ref C')) => C' == C && p == cmAt K C m
    | _ => false) && ((match PySem.W.recIn K (cmAt K C m) "classmethod" with
    | some (.ref g :: _) => g == cmFn K (cmAt K C m)
    | _ => false) && PySem.W.fnIn K (cmFn K (cmAt K C m)))))
theorem cmT_of {C : Addr} {m q : Str} {ps : List Str} {st : Stmt} (hb : BindH m q ps st) (h : cmB K C m = true) (e : fnVal K (cmFn K (cmAt K C m)) = stVal m q st) (c : codeB K (cmFn K (cmAt K C m)) q = true) : Nonempty (CmT K C m q ps st) := by
  obtain ⟨h1, h⟩ := ba h
  obtain ⟨h2, h⟩ := ba h
  obtain ⟨h3, h⟩ := ba h
  obtain ⟨h4, h5⟩ := ba h
  obtain ⟨d, F⟩ := fun_of e c
  refine ⟨⟨.type "type", cmAt K C m, cmFn K (cmAt K C m), d, F, ⟨h1, He.eqO_ok h2⟩, ⟨?_, ?_, h5⟩, F.binds hb⟩⟩
  · split at h3
    · rename_i p C' hp
      obtain ⟨z1, z2⟩ := ba h3
      rw [hp]
      have z1' : C' = C := by simpa using z1
      have z2' : p = cmAt K C m := by simpa using z2
      rw [z1', ← z2']
    · cases h3
  · split at h4
    · rename_i g rest hg
      have z : g = cmFn K (cmAt K C m) := by simpa using h4
      exact ⟨rest, by rw [hg, ← z]⟩
    · cases h4
end
end FL

set_option Elab.async false
set_option linter.all false
set_option maxRecDepth 100000
set_option maxHeartbeats 4000000
/-! keywords -/
namespace FL
open PySem PySem.Spec PyProof.Rows L2

/-- how n values and the keywords ks fill the parameters -/
structure KwB (K : PySem.W.Frag) (fd : FuncData) (ps : List Str) (n : Nat) (ks : List Str) (gD : List Val → List Val → List Val) : Prop where
  ex : ∃ g gV, KBn K fd ps n ks g gV ∧ ∀ (G : Gx) (w : Wd) (vs zs : List V) (ds es : List Val), RepVs G w vs ds → RepVs G w zs es → ds.length = n → es.length = ks.length → RepVs G w (gV vs zs) (gD ds es)
abbrev KF (X : Cx) (G : Gx) (W : WX) (kws : List Keyword) (f : S → Res (List Val)) : Prop := PK X kws (tIA G W f)
section
variable {X : Cx} {G : Gx} {W : WX} {k : Nat}
theorem _root_.L2.PK.imp {X : Cx} {e : List Keyword} {t t' : TA} (h : PK X e t) (k : ∀ σ H Q, t' σ H Q → t σ H Q) : PK X e t' := ⟨fun pos pins s σ H Q I q => h.run pos pins s σ H Q I (k σ H Q q)⟩
theorem kf_nil : KF X G W [] aNil := pk_nil.imp fun _ _ _ ⟨w, _, R, q⟩ => q w _ (.refl _) R [] .nil
theorem kf_cons {nm : Option Str} {e : Expr} {kpos : Pos} {kws : List Keyword} {f : S → Res Val} {g : S → Res (List Val)} (h : EF X G W e f) (r : KF X G W kws g) : KF X G W (⟨nm, e, kpos⟩ :: kws) (aCons f g) :=
  (pk_cons h r).imp fun σ H Q ⟨w, st, R, q⟩ => ⟨w, st, R, q.bind fun w1 H1 s1 x _ R1 q1 v rv => ⟨w1, s1, R1, q1.bind fun w2 H2 s2 xs l2 R2 q2 vs rvs => q2 w2 H2 (.refl _) R2 _ (.cons (rv.mono l2) rvs)⟩⟩
theorem Fun.kbn {K : PySem.W.Frag} {x qual : Str} {st : Stmt} {f : Addr} {fd : FuncData} {ps : List Str} (F : Fun K x qual st f fd) (n : Nat) (ks : List Str) (g : List Value → List Value → List Value) (gV : List V → List V → List V)
    (h : ∀ (kV doc pm : Value) (an : Option Addr) (cdv ct : Value) (us ws : List Value), us.length = n → ws.length = ks.length → bindArgs (PySem.W.fnOf x qual (defArgs st) (defBody st) (defScope st) .none kV doc pm an cdv ct) ⟨us, ks.zip ws⟩ = pure (ps.zip (g us ws)))
    (hr : ∀ {vs : List V} {us : List Value} {zs : List V} {ws : List Value}, Vals vs us → Vals zs ws → Vals (gV vs zs) (g us ws)) : KBn K fd ps n ks g gV := by
  obtain ⟨oc, od, kV, doc, pm, an, cdv, ct, osl, rfl, lk, hcd⟩ := F.ex
  exact ⟨fun s us ws _ h1 h2 => .of_eq (h kV doc pm an cdv ct us ws h1 h2), hr⟩
/-- all parameters by keywords in the order ix of ks (the i-th parameter behind the first n is the ix i-th keyword) -/
def permG {α : Type} (ix : List Nat) (us ws : List α) : List α := us ++ ix.filterMap fun i => ws[i]?
theorem perm_vals {vs : List V} {us : List Value} {zs : List V} {ws : List Value} (ix : List Nat) (h : Vals vs us) (k : Vals zs ws) : Vals (permG ix vs zs) (permG ix us ws) := by
  refine h.append ?_
  induction ix with
  | nil => exact .nil
  | cons i ix ih =>
    cases e : zs[i]? with
    | none =>
      have e2 := k.none_of e
      simp only [List.filterMap_cons, e, e2]; exact ih
    | some v =>
      obtain ⟨u, e2, r⟩ := k.get e
      simp only [List.filterMap_cons, e, e2]; exact .cons r ih
theorem RepVs.get? {w : Wd} : ∀ {vs : List V} {ds : List Val} (i : Nat), RepVs G w vs ds → (vs[i]? = none ∧ ds[i]? = none) ∨ ∃ v d, vs[i]? = some v ∧ ds[i]? = some d ∧ RepV G w v d
  | _, _, _, .nil => .inl ⟨by simp, by simp⟩
  | _, _, 0, .cons a _ => .inr ⟨_, _, rfl, rfl, a⟩
  | _, _, i + 1, .cons _ b => by simpa using RepVs.get? i b
theorem perm_reps {w : Wd} {vs zs : List V} {ds es : List Val} (ix : List Nat) (h : RepVs G w vs ds) (k : RepVs G w zs es) : RepVs G w (permG ix vs zs) (permG ix ds es) := by
  refine h.append ?_
  induction ix with
  | nil => exact .nil
  | cons i ix ih =>
    rcases k.get? i with ⟨e1, e2⟩ | ⟨v, d, e1, e2, r⟩
    · simp only [List.filterMap_cons, e1, e2]; exact ih
    · simp only [List.filterMap_cons, e1, e2]; exact .cons r ih
theorem Fun.kwb {K : PySem.W.Frag} {x qual : Str} {st : Stmt} {f : Addr} {fd : FuncData} {ps : List Str} (F : Fun K x qual st f fd) (n : Nat) (ks : List Str) (ix : List Nat)
    (h : ∀ (kV doc pm : Value) (an : Option Addr) (cdv ct : Value) (us ws : List Value), us.length = n → ws.length = ks.length → bindArgs (PySem.W.fnOf x qual (defArgs st) (defBody st) (defScope st) .none kV doc pm an cdv ct) ⟨us, ks.zip ws⟩ = pure (ps.zip (permG ix us ws))) : KwB K fd ps n ks (permG ix) :=
  ⟨permG ix, permG ix, Fun.kbn F n ks _ _ h (perm_vals ix), fun G w vs zs ds es h1 h2 _ _ => perm_reps ix h1 h2⟩
def makeKF (C : Nat) (F : FS) (n m : Nat) (gD : List Val → List Val → List Val) (ga gk : S → Res (List Val)) : S → Res Val := fun st => bindR (ga st) fun xs s => bindR (gk s) fun zs s => if (decide (xs.length = n) && decide (zs.length = m)) = true then outI s.c.length C s.r (F (gD (.rf s.c.length :: xs) zs) (s.c ++ [.ins C []])) else .bad
/-- what follows the call of a class -/
theorem make_goes {C : Nat} {F : FS} {m : Nat} {σ : L2.St} {H1 : Hp} {Q : VK} {w1 : Wd} {s1 : S} {us : List V} {ds : List Val} {x dx : Addr} (R1 : Rel G w1 s1 σ H1) (hx : H1 x = none) (hdx : H1 dx = none) (ne : dx ≠ x)
    (rvs : RepVs G ⟨w1.as ++ [x], w1.Hs⟩ us ds) (hl : ds.length = m) (q1 : PostE G W σ w1 (outI s1.c.length C s1.r (F ds (s1.c ++ [.ins C []]))) (fun w' H' _ d => ∀ v, RepV G w' v d → Q v H')) :
    spF G m F us (upd (upd H1 dx (.own x)) x (.ins (G.cl C) dx [])) (fun v H2 => v = .non ∧ Q (.ref x) H2) (fun cls d H => W cls d σ H) := by
  have lD : w1.le ⟨w1.as ++ [x], w1.Hs⟩ := .snoc
  have R2 := R1.c.cellI (C := C) hx hdx ne
  refine ⟨⟨w1.as ++ [x], w1.Hs⟩, _, ds, R2, rvs, hl, ?_⟩
  cases ef : F ds (s1.c ++ [.ins C []]) with
  | bad => rw [ef] at q1; exact q1.elim
  | exc y c =>
    rw [ef] at q1
    intro w3 H3 cls dd l3 R3 hy
    obtain ⟨e4, l4⟩ := (lD.trans l3).cut R1.c.len
    exact q1 ⟨w3.as.take s1.c.length, w3.Hs⟩ H3 cls dd l4 ⟨R1.v.mono l4, R3.cut _⟩ ⟨hy.cls, hy.dict⟩
  | ok v c =>
    rw [ef] at q1
    intro w3 H3 u l3 R3 ru
    cases v with
    | rf j => exact q1.elim
    | d v =>
      cases v with
      | non =>
        cases ru
        refine ⟨rfl, ?_⟩
        unfold outI at q1
        simp only at q1
        cases ec : c[s1.c.length]? with
        | none => simp only [ec] at q1; exact q1.elim
        | some cc =>
          cases cc with
          | ins C' fs =>
            simp only [ec] at q1
            by_cases hC : C' = C
            · subst hC
              rw [if_pos rfl] at q1
              have ea : w3.as[s1.c.length]? = some x := l3.at (by show (w1.as ++ [x])[s1.c.length]? = _; rw [← R1.c.len, List.getElem?_append_right (Nat.le_refl _)]; simp)
              obtain ⟨dx', us, T, l, r⟩ := R3.popI (w0 := w1) ea ec
              obtain ⟨e4, l4⟩ := (lD.trans l3).cut R1.c.len
              have l5 : w1.le ⟨w3.as.take s1.c.length, upd w3.Hs x (.ins (G.cl C') dx' us)⟩ := ⟨l4.as, l4.hs.trans l⟩
              exact q1 _ H3 l5 ⟨R1.v.mono l5, T⟩ (.ref x) r
            · rw [if_neg hC] at q1; exact q1.elim
          | _ => simp only [ec] at q1; exact q1.elim
      | _ => exact q1.elim
theorem run_mkK {pins : List (Addr × Obj)} {σ : L2.St} {H : Hp} {s : Shared} {Q : VK} {us ws : List Value} {vs zs : List V} {C f : Addr} {j n : Nat} {fd : FuncData} {ps ks : List Str} {sp : Sp} {E : XK} {g : List Value → List Value → List Value} {gV : List V → List V → List V} (M : Mk X.K C f) (Fo : FnOk X.prog X.w X.K X.mg X.base (L2.CX X.prog X.w) j f fd ps sp) (hr : Room (j + 1) X.A) (hb : KBn X.K fd ps (n + 1) ks g gV)
    (hx : PassesAt (L2.CX X.prog X.w) X σ E) (I : Inv X pins σ H s) (r : Vals vs us) (rz : Vals zs ws) (l1 : vs.length = n) (l2 : zs.length = ks.length)
    (h : ∀ x dx, H x = none → H dx = none → dx ≠ x → sp (gV (.ref x :: vs) zs) (upd (upd H dx (.own x)) x (.ins C dx [])) (fun v H2 => v = .non ∧ Q (.ref x) H2) E) : wpAny (model X.prog X.w) X.A (call (.ref C) us (ks.zip ws)) (EP X pins σ Q) X.xe s := by
  have hq := h (s.heap.objs.size + 1) s.heap.objs.size (I.hok.fresh (Nat.le_succ _)) (I.hok.fresh (Nat.le_refl _)) (Nat.ne_of_lt (Nat.lt_succ_self _))
  have J := Inv.made (C := C) I
  have r1 : Vals (V.ref (s.heap.objs.size + 1) :: vs) (Value.ref (s.heap.objs.size + 1) :: us) := .cons rfl r
  have n1 : (Value.ref (s.heap.objs.size + 1) :: us).length = n + 1 := by rw [List.length_cons, ← r.length, l1]
  have run := Fo.run _ X.stack _ _ ⟨Value.ref (s.heap.objs.size + 1) :: us, ks.zip ws⟩ _ _ _ E (hr.make C us (ks.zip ws)) (J.env0.make C us (ks.zip ws)) (hb.to _ _ ws J.kIn n1 (rz.length.symm.trans l2)) (hb.rel r1 rz) hq
  refine wpAny_call (make_map (f := f) I.kIn M.makes M.init (beq_iff_eq.mp M.fn) (codeAny_mono run fun r t hq2 => ?_))
  cases r with
  | error e => exact hx pins _ _ e t J hq2
  | ok fl =>
    cases fl with
    | next => exact False.elim hq2
    | brk => exact False.elim hq2
    | cont => exact False.elim hq2
    | ret u =>
      obtain ⟨v, H2, J2, rv, ev, q3⟩ := J.after hq2
      subst ev
      exact ⟨rv, ⟨V.ref (s.heap.objs.size + 1), H2, J2, rfl, q3⟩⟩
/-- C(k = v, ..) -/
theorem ef_makeK0 {C : Nat} {F : FS} {m j : Nat} {f : Addr} {fd : FuncData} {ps ks : List Str} {x : Str} {p pos : Pos} {kws : List Keyword} {g : S → Res (List Val)} {gD : List Val → List Val → List Val} (Cc : Fx X G W k) (M : Mk X.K (G.cl C) f) (Fo : FnOk X.prog X.w X.K X.mg X.base (L2.CX X.prog X.w) j f fd ps (spF G m F)) (hj : j + 1 ≤ k)
    (hg : Gl X x) (hm : X.mg x = some (.ref (G.cl C))) (hb : KwB X.K fd ps 1 ks gD) (hk : KF X G W kws g) (hgl : ∀ ds es : List Val, ds.length = 1 → es.length = ks.length → (gD ds es).length = m)
    (hall : (backToKw pos (keywordEach kws X.env)).all (·.1.isSome) = true := by rfl) (hks : (backToKw pos (keywordEach kws X.env)).filterMap (·.1) = ks := by rfl) (hdb : (x == ("__debug__" : Str)) = false := by decide)
    (hpl : ((backTo pos (starEach [] X.env)).any (·.1) || (backToKw pos (keywordEach kws X.env)).any (·.1.isNone)) = false := by rfl) : EF X G W (.Call (.Name x p) [] kws pos) (makeKF C F 0 ks.length gD aNil g) := by
  refine ⟨fun pins s σ H Q I ⟨w, st, R, q⟩ => ?_⟩
  obtain ⟨gv, gV, hbn, hrep⟩ := hb.ex
  refine wpAny_Call_Name_kw (ld_glob I hg hm ?_ hdb)
  refine PySem.W.callWith_KW0 (h₀ := X.base) I.ok.mod.kin M.kp hall ?_ hpl
  have q0 : PostE G W σ w (bindR (g st) fun zs s => if (decide (([] : List Val).length = 0) && decide (zs.length = ks.length)) = true then outI s.c.length C s.r (F (gD (.rf s.c.length :: []) zs) (s.c ++ [.ins C []])) else .bad) (fun w' H' _ d => ∀ v, RepV G w' v d → Q v H') := q
  have ek := hk.run pos pins s σ H (fun zs H1 => ∃ w1 s1 es, Rel G w1 s1 σ H1 ∧ RepVs G w1 zs es ∧ PostE G W σ w1 (if (decide (([] : List Val).length = 0) && decide (es.length = ks.length)) = true then outI s1.c.length C s1.r (F (gD (.rf s1.c.length :: []) es) (s1.c ++ [.ins C []])) else .bad) (fun w' H' _ d => ∀ v, RepV G w' v d → Q v H')) I
    ⟨w, st, R, q0.bind fun w1 H1 s1 es _ R1 q1 vs rvs => ⟨w1, s1, es, R1, rvs, q1⟩⟩
  refine thn ek fun ws s2 ⟨zs, H2, I2, rz, w1, s1, es, R1, rvs, q1⟩ => ⟨I2.kIn, ?_⟩
  rw [hks]
  by_cases z : (decide (([] : List Val).length = 0) && decide (es.length = ks.length)) = true
  · rw [if_pos z] at q1
    have z2 : es.length = ks.length := by simpa using z
    refine run_mkK (us := []) (vs := []) (E := fun cls d H => W cls d σ H) M Fo (Cc.hr.mono hj) hbn (fun pins' H' s' e' s'' I' c => Cc.tk e' s'' (XE.of_call I' (fun _ _ _ h => h) c)) I2 .nil rz rfl (by rw [rvs.length, z2]) fun xa dx hx hdx ne => ?_
    refine make_goes R1 hx hdx ne (hrep G _ _ _ _ _ (.cons (repV_last R1.c.len) .nil) (rvs.mono Wd.le.snoc) rfl z2) (hgl _ _ rfl z2) q1
  · rw [if_neg z] at q1; exact q1.elim
/-- f(e, .., k = v, ..), f a def -/
def callKF (F : FS) (n m : Nat) (gD : List Val → List Val → List Val) (ga gk : S → Res (List Val)) : S → Res Val := fun st => bindR (ga st) fun xs s => bindR (gk s) fun zs s => if (decide (xs.length = n) && decide (zs.length = m)) = true then liftF s.r (F (gD xs zs) s.c) else .bad
/-- one by one: a list of methods -/
theorem lk_nil {P : Nat → FS → Prop} : ∀ C F, ([] : List (Nat × FS)).lookup C = some F → P C F := fun _ _ h => by cases h
theorem lk_cons {P : Nat → FS → Prop} {C : Nat} {F : FS} {l : List (Nat × FS)} (h : P C F) (r : ∀ C F, l.lookup C = some F → P C F) : ∀ C' F', ((C, F) :: l).lookup C' = some F' → P C' F' := fun C' F' e => by
  by_cases z : C' = C
  · subst z
    have e' : some F = some F' := by simpa [List.lookup] using e
    cases e'; exact h
  · have hb : (C' == C) = false := by simpa using z
    have e' : l.lookup C' = some F' := by simpa only [List.lookup, hb] using e
    exact r C' F' e'
theorem lk_one {P : Nat → FS → Prop} {C : Nat} {F : FS} (h : P C F) : ∀ C' F', [(C, F)].lookup C' = some F' → P C' F' := lk_cons h lk_nil
def xnB (K : PySem.W.Frag) (cl : Nat → Addr) (n : Nat) (f : Str) : Bool := (List.range (n + 1)).all fun c => He.eqO (PySem.W.findIn K (.ref (cl c)) f) (some none)
theorem xnB_ok {K : PySem.W.Frag} {cl : Nat → Addr} {n : Nat} {f : Str} (h : xnB K cl n f = true) : ∀ c, c ≤ n → PySem.W.findIn K (.ref (cl c)) f = some none := fun c hc => He.eqO_ok (all_of h c (List.mem_range.mpr (by omega)))
end
end FL

set_option Elab.async false
set_option linter.all false
set_option maxRecDepth 100000
set_option maxHeartbeats 4000000
/-! the end of a law -/
namespace FL
open PySem PySem.Spec PyProof.Rows L2
theorem cx_false {P : Program} {w : World} {outer : List Env} {H : Hp} {s : Shared} {e : Value} {s' : Shared} (h : L2.CX P w outer H s (fun _ _ _ => False) e s') : False := by
  unfold L2.CX at h
  repeat (first | exact h.elim | (obtain ⟨_, h⟩ := h))
/-- the promise of the law's def at a script -/
theorem sp_law {K : PySem.W.Frag} {cl : Nat → Addr} {F : FS} {H : Hp} {a : Addr} {ns : List Int} (hS : SqL K H a (ns.map V.int)) (hF : F [.d (.scr (ns.map D.int))] [] = .ok (.d (.bl true)) []) : spF ⟨K, cl, none⟩ 1 F [.ref a] H (fun v _ => v = .bl true) fun _ _ _ => False := by
  refine ⟨⟨[], H⟩, [], [.d (.scr (ns.map D.int))], ⟨rfl, .nil, Exd.refl _, fun i a c ea ec => by simp at ec⟩, .cons (Rep.scr hS (repL_ints ns)) .nil, rfl, ?_⟩
  rw [hF]
  intro w' H' v _ _ r
  cases r; rfl
theorem end_law {l : PySem.W.OpenLaw} {k : Nat} {q : Program} {loose : List Str} {XP : (Str → Option Value) → Heap → Prop} {YP : World → Heap → Prop} {d : DefRec} {K : Params → PySem.W.Frag} {x : Str} {F : FS} {st : Stmt} {cl : PySem.W.Frag → Nat → Addr} (hn : l.most = some 63) (hdf : d.params.defaults = []) (hr : Room k callerA)
    (hY : ∀ (w : World) (h : Heap), YP w h → (K w.params).In h) (hd : d.name = "law")
    (hF : ∀ (w : World) (mg : Str → Option Value) (h : Heap), (K w.params).In h → h.Ns mainGlobals mg → ∃ T : FnT (K w.params) mg "law" [x] st, ∀ base : Heap, FnOk l.prog w (K w.params) mg base (L2.CX l.prog w) k T.f T.d [x] (spF ⟨K w.params, cl (K w.params), none⟩ 1 F))
    (law : ∀ ns : List Int, ns.length ≤ 63 → (∀ z ∈ ns, Builtin.Int.intBits z ≤ 1048576) → F [.d (.scr (ns.map D.int))] [] = .ok (.d (.bl true)) []) :
    PySem.W.WalkO q loose XP YP l.row.toRowW d [] (fun f vs => PySem.call f vs) :=
  L2.walk_ofB (l := l) (n := 63) (k := k) (x := x) (CX := fun w => L2.CX l.prog w) (sp := fun w => spF ⟨K w.params, cl (K w.params), none⟩ 1 F) hn (by decide) hdf hr hY (fun w mg fa h KX G hmg => by
    obtain ⟨T, ok⟩ := hF w mg h KX G
    rw [hd, T.g] at hmg
    cases hmg
    exact ⟨T.d, fun s u => .of_eq (T.e [u] rfl), fun base _ _ => ok base⟩) (fun w H a ns hl hb _ hS => sp_law hS (law ns hl hb)) fun w H s e s' h => cx_false h
end FL

set_option Elab.async false
set_option linter.all false
set_option maxRecDepth 100000
set_option maxHeartbeats 4000000
namespace FL
open PySem PySem.Spec L2
/-! evaluation by simp, the later constructs -/
section
variable {α β : Type}
def k_ra2 (C : Nat) (fs : List Str) (ds : List D) (s : S) : SRes := if ds.length = fs.length then .exc ⟨C, fs.zip ds⟩ s else .bad
def k_ra1 (C : Nat) (fs : List Str) (xs : List Val) (s : S) : SRes := bindS (optR (pureD xs) s) (k_ra2 C fs)
@[simp] theorem k_ra2_eq (C : Nat) (fs : List Str) (ds : List D) (s : S) : k_ra2 C fs ds s = if ds.length = fs.length then .exc ⟨C, fs.zip ds⟩ s else .bad := rfl
@[simp] theorem k_ra1_eq (C : Nat) (fs : List Str) (xs : List Val) (s : S) : k_ra1 C fs xs s = bindS (optR (pureD xs) s) (k_ra2 C fs) := rfl
@[simp] theorem raiseS_eq (C : Nat) (fs : List Str) (g : S → Res (List Val)) (st : S) : raiseS C fs g st = bindS (g st) (k_ra1 C fs) := rfl
/-! try -/
def tryR (sub : Sub) (l : List Cla) (r : SRes) : SRes := match r with
  | .exc x s => clS sub l x s
  | r => r
@[simp] theorem tryS_eq (sub : Sub) (b : S → SRes) (l : List Cla) (st : S) : tryS sub b l st = tryR sub l (b st) := rfl
@[simp] theorem tryR_nx (sub : Sub) (l : List Cla) (s : S) : tryR sub l (.nx s) = .nx s := rfl
@[simp] theorem tryR_ret (sub : Sub) (l : List Cla) (v : Val) (s : S) : tryR sub l (.ret v s) = .ret v s := rfl
@[simp] theorem tryR_brk (sub : Sub) (l : List Cla) (s : S) : tryR sub l (.brk s) = .brk s := rfl
@[simp] theorem tryR_ct (sub : Sub) (l : List Cla) (s : S) : tryR sub l (.ct s) = .ct s := rfl
@[simp] theorem tryR_exc (sub : Sub) (l : List Cla) (x : Exn) (s : S) : tryR sub l (.exc x s) = clS sub l x s := rfl
@[simp] theorem clS_nil (sub : Sub) (x : Exn) (s : S) : clS sub [] x s = .exc x s := rfl
def selC (o : Option Bool) (g k : S → SRes) (s : S) : SRes := match o with
  | some true => g s
  | some false => k s
  | none => .bad
def k_cl (sub : Sub) (r : List Cla) (x : Exn) (s : S) : SRes := clS sub r x s
@[simp] theorem k_cl_eq (sub : Sub) (r : List Cla) (x : Exn) (s : S) : k_cl sub r x s = clS sub r x s := rfl
@[simp] theorem clS_cons (sub : Sub) (c i : Nat) (g : Exn → S → SRes) (r : List Cla) (x : Exn) (s : S) : clS sub ((c, some i, g) :: r) x s = selC (sub x.C c) (asS i g x) (k_cl sub r x) s := by
  unfold selC
  show (match sub x.C c with | some true => asS i g x s | some false => clS sub r x s | none => .bad) = _
  split <;> rfl
@[simp] theorem selC_t (g k : S → SRes) (s : S) : selC (some true) g k s = g s := rfl
@[simp] theorem selC_f (g k : S → SRes) (s : S) : selC (some false) g k s = k s := rfl
theorem subL_at {n c d : Nat} (h : c ≤ n) (k : d ≤ n) : subL n c d = some (c == d || d == 0) := if_pos ⟨h, k⟩
@[simp] theorem subL_eq (n c d : Nat) : subL n c d = if c ≤ n ∧ d ≤ n then some (c == d || d == 0) else none := rfl
@[simp] theorem asS_eq (i : Nat) (g : Exn → S → SRes) (x : Exn) (s : S) : asS i g x s = if i < s.r.length then cleanS i (g x ⟨s.r.set i none, s.c⟩) else .bad := rfl
@[simp] theorem cleanS_nx (i : Nat) (s : S) : cleanS i (.nx s) = .nx ⟨s.r.set i none, s.c⟩ := rfl
@[simp] theorem cleanS_ret (i : Nat) (v : Val) (s : S) : cleanS i (.ret v s) = .ret v ⟨s.r.set i none, s.c⟩ := rfl
@[simp] theorem cleanS_brk (i : Nat) (s : S) : cleanS i (.brk s) = .brk ⟨s.r.set i none, s.c⟩ := rfl
@[simp] theorem cleanS_ct (i : Nat) (s : S) : cleanS i (.ct s) = .ct ⟨s.r.set i none, s.c⟩ := rfl
@[simp] theorem xfF_eq (x : Exn) (f : Str) (st : S) : xfF x f st = optR ((x.fs.lookup f).map .d) st := rfl
/-! instances -/
def k_fld (Cs : List Nat) (f : Str) (x : Val) (s : S) : Res Val := optR (fldD Cs f x s.c) s
@[simp] theorem k_fld_eq (Cs : List Nat) (f : Str) (x : Val) (s : S) : k_fld Cs f x s = optR (fldD Cs f x s.c) s := rfl
@[simp] theorem fldF_eq (Cs : List Nat) (f : Str) (fo : S → Res Val) (st : S) : fldF Cs f fo st = bindR (fo st) (k_fld Cs f) := rfl
@[simp] theorem fldD_ins (Cs : List Nat) (f : Str) (C : Nat) (fs : List (Str × D)) (cs : List Cell) : fldD Cs f (.d (.ins C fs)) cs = if Cs.contains C = true then (fs.lookup f).map .d else none := rfl
def fldC (Cs : List Nat) (f : Str) (c : Option Cell) : Option Val := match c with
  | some (.ins C fs) => if Cs.contains C = true then (fs.lookup f).map .d else none
  | _ => none
@[simp] theorem fldD_rf (Cs : List Nat) (f : Str) (j : Nat) (cs : List Cell) : fldD Cs f (.rf j) cs = fldC Cs f cs[j]? := rfl
@[simp] theorem fldC_ins (Cs : List Nat) (f : Str) (C : Nat) (fs : List (Str × D)) : fldC Cs f (some (.ins C fs)) = if Cs.contains C = true then (fs.lookup f).map .d else none := rfl
theorem lookup_hit {f : Str} {a : α} {r : List (Str × α)} : ((f, a) :: r).lookup f = some a := by simp [List.lookup]
theorem lookup_miss {f g : Str} {a : α} {r : List (Str × α)} (h : (f == g) = false) : ((g, a) :: r).lookup f = r.lookup f := by simp [List.lookup, h]
def k_sf2 (C : Nat) (f : Str) (v o : Val) (s : S) : SRes := bindS (optR (setFld C f o v s.c) s) k_si4
def k_sf1 (C : Nat) (f : Str) (fo : S → Res Val) (v : Val) (s : S) : SRes := bindS (fo s) (k_sf2 C f v)
@[simp] theorem k_sf2_eq (C : Nat) (f : Str) (v o : Val) (s : S) : k_sf2 C f v o s = bindS (optR (setFld C f o v s.c) s) k_si4 := rfl
@[simp] theorem k_sf1_eq (C : Nat) (f : Str) (fo : S → Res Val) (v : Val) (s : S) : k_sf1 C f fo v s = bindS (fo s) (k_sf2 C f v) := rfl
@[simp] theorem setfS_eq (C : Nat) (f : Str) (fo fv : S → Res Val) (st : S) : setfS C f fo fv st = bindS (fv st) (k_sf1 C f fo) := rfl
def setFC (C : Nat) (f : Str) (j : Nat) (x : D) (cs : List Cell) (c : Option Cell) : Option (List Cell) := match c with
  | some (.ins C' fs) => if (C' == C && decide (fs.length < 900)) = true then some (cs.set j (.ins C (putD f x fs))) else none
  | _ => none
@[simp] theorem setFld_eq (C : Nat) (f : Str) (j : Nat) (x : D) (cs : List Cell) : setFld C f (.rf j) (.d x) cs = setFC C f j x cs cs[j]? := rfl
@[simp] theorem setFC_ins (C : Nat) (f : Str) (j : Nat) (x : D) (cs : List Cell) (C' : Nat) (fs : List (Str × D)) : setFC C f j x cs (some (.ins C' fs)) = if (C' == C && decide (fs.length < 900)) = true then some (cs.set j (.ins C (putD f x fs))) else none := rfl
@[simp] theorem putD_nil (f : Str) (d : D) : putD f d [] = [(f, d)] := rfl
theorem putD_miss {f g : Str} {d e : D} {r : List (Str × D)} (h : ¬ g = f) : putD f d ((g, e) :: r) = (g, e) :: putD f d r := by simp [putD, h]
@[simp] theorem getElem?_append_self {l : List α} {a : α} : (l ++ [a])[l.length]? = some a := by simp
@[simp] theorem set_append_self {l : List α} {a b : α} : (l ++ [a]).set l.length b = l ++ [b] := by simp
@[simp] theorem take_append_self {l m : List α} : (l ++ m).take l.length = l := by simp
def k_mk2 (C : Nat) (F : FS) (xs : List Val) (s : S) : Res Val := outI s.c.length C s.r (F (.rf s.c.length :: xs) (s.c ++ [.ins C []]))
def k_mk (C : Nat) (F : FS) (m : Nat) (xs : List Val) (s : S) : Res Val := selR (decide (xs.length = m)) (k_mk2 C F xs) k_badR s
@[simp] theorem k_mk2_eq (C : Nat) (F : FS) (xs : List Val) (s : S) : k_mk2 C F xs s = outI s.c.length C s.r (F (.rf s.c.length :: xs) (s.c ++ [.ins C []])) := rfl
@[simp] theorem k_mk_eq (C : Nat) (F : FS) (m : Nat) (xs : List Val) (s : S) : k_mk C F m xs s = selR (decide (xs.length = m)) (k_mk2 C F xs) k_badR s := rfl
@[simp] theorem makeF_eq (C : Nat) (F : FS) (m : Nat) (g : S → Res (List Val)) (st : S) : makeF C F m g st = bindR (g st) (k_mk C F m) := by
  unfold makeF
  congr 1
  funext xs s
  by_cases h : xs.length = m
  · rw [if_pos h, k_mk_eq, decide_eq_true h]; rfl
  · rw [if_neg h, k_mk_eq, decide_eq_false h]; rfl
@[simp] theorem outI_exc (n C : Nat) (r : List (Option Val)) (x : Exn) (c : List Cell) : outI n C r (.exc x c) = .exc x ⟨r, c.take n⟩ := rfl
def outC (C : Nat) (r : List (Option Val)) (c : List Cell) (n : Nat) (o : Option Cell) : Res Val := match o with
  | some (.ins C' fs) => if C' = C then .ok (.d (.ins C fs)) ⟨r, c.take n⟩ else .bad
  | _ => .bad
@[simp] theorem outI_ok (n C : Nat) (r : List (Option Val)) (c : List Cell) : outI n C r (.ok (.d .non) c) = outC C r c n c[n]? := rfl
@[simp] theorem outC_ins (C : Nat) (r : List (Option Val)) (c : List Cell) (n C' : Nat) (fs : List (Str × D)) : outC C r c n (some (.ins C' fs)) = if C' = C then .ok (.d (.ins C fs)) ⟨r, c.take n⟩ else .bad := rfl
@[simp] theorem makeLF_eq (i C : Nat) (F : FS) (m : Nat) (g : S → Res (List Val)) (st : S) : makeLF i C F m g st = if isCl C i st = true then makeF C F m g st else .bad := rfl
def isCO (C : Nat) (o : Option (Option Val)) : Bool := match o with
  | some (some (.d (.cl C'))) => C' == C
  | _ => false
@[simp] theorem isCl_eq (C i : Nat) (st : S) : isCl C i st = isCO C st.r[i]? := rfl
@[simp] theorem isCO_cl (C C' : Nat) : isCO C (some (some (.d (.cl C')))) = (C' == C) := rfl
@[simp] theorem cmF_eq (C : Nat) (F : FS) (n : Nat) (g : S → Res (List Val)) (st : S) : cmF C F n g st = bindR (g st) (k_call (fun xs cs => F (.d (.cl C) :: xs) cs) n) := callF_eq _ _ _ _
def k_mkk2 (C : Nat) (F : FS) (n m : Nat) (gD : List Val → List Val → List Val) (xs zs : List Val) (s : S) : Res Val := if (decide (xs.length = n) && decide (zs.length = m)) = true then outI s.c.length C s.r (F (gD (.rf s.c.length :: xs) zs) (s.c ++ [.ins C []])) else .bad
def k_mkk1 (C : Nat) (F : FS) (n m : Nat) (gD : List Val → List Val → List Val) (gk : S → Res (List Val)) (xs : List Val) (s : S) : Res Val := bindR (gk s) (k_mkk2 C F n m gD xs)
@[simp] theorem k_mkk2_eq (C : Nat) (F : FS) (n m : Nat) (gD : List Val → List Val → List Val) (xs zs : List Val) (s : S) : k_mkk2 C F n m gD xs zs s = if (decide (xs.length = n) && decide (zs.length = m)) = true then outI s.c.length C s.r (F (gD (.rf s.c.length :: xs) zs) (s.c ++ [.ins C []])) else .bad := rfl
@[simp] theorem k_mkk1_eq (C : Nat) (F : FS) (n m : Nat) (gD : List Val → List Val → List Val) (gk : S → Res (List Val)) (xs : List Val) (s : S) : k_mkk1 C F n m gD gk xs s = bindR (gk s) (k_mkk2 C F n m gD xs) := rfl
@[simp] theorem makeKF_eq (C : Nat) (F : FS) (n m : Nat) (gD : List Val → List Val → List Val) (ga gk : S → Res (List Val)) (st : S) : makeKF C F n m gD ga gk st = bindR (ga st) (k_mkk1 C F n m gD gk) := rfl
/-! methods -/
def k_me (l : List (Nat × FS)) (m : Str) (n : Nat) (g : S → Res (List Val)) (x : Val) (s : S) (o : Option (Nat × List (Str × D))) : Res Val := match o with
  | some (C, fs) => if (fs.lookup m).isNone = true then match l.lookup C with
    | some F => bindR (g s) (k_m2 F n x)
    | none => .bad
    else .bad
  | none => .bad
def k_meth (l : List (Nat × FS)) (m : Str) (n : Nat) (g : S → Res (List Val)) (x : Val) (s : S) : Res Val := k_me l m n g x s (insC x s.c)
@[simp] theorem k_meth_eq (l : List (Nat × FS)) (m : Str) (n : Nat) (g : S → Res (List Val)) (x : Val) (s : S) : k_meth l m n g x s = k_me l m n g x s (insC x s.c) := rfl
@[simp] theorem methF_eq (l : List (Nat × FS)) (m : Str) (n : Nat) (fo : S → Res Val) (g : S → Res (List Val)) (st : S) : methF l m n fo g st = bindR (fo st) (k_meth l m n g) := rfl
@[simp] theorem insC_d (C : Nat) (fs : List (Str × D)) (cs : List Cell) : insC (.d (.ins C fs)) cs = some (C, fs) := rfl
@[simp] theorem k_me_some (l : List (Nat × FS)) (m : Str) (n : Nat) (g : S → Res (List Val)) (x : Val) (s : S) (C : Nat) (fs : List (Str × D)) : k_me l m n g x s (some (C, fs)) = if (fs.lookup m).isNone = true then match l.lookup C with
    | some F => bindR (g s) (k_m2 F n x)
    | none => .bad
    else .bad := rfl
@[simp] theorem k_m2_eq (F : FS) (n : Nat) (x : Val) (xs : List Val) (s : S) : k_m2 F n x xs s = if xs.length = n then liftF s.r (F (x :: xs) s.c) else .bad := rfl
@[simp] theorem isInsC_d (C C' : Nat) (fs : List (Str × D)) (cs : List Cell) : isInsC C (.d (.ins C' fs)) cs = (C' == C) := rfl
@[simp] theorem isInsC_non (C : Nat) (cs : List Cell) : isInsC C (.d .non) cs = false := rfl
@[simp] theorem isInsC_bl (C : Nat) (b : Bool) (cs : List Cell) : isInsC C (.d (.bl b)) cs = false := rfl
@[simp] theorem isInsC_int (C : Nat) (i : Int) (cs : List Cell) : isInsC C (.d (.int i)) cs = false := rfl
@[simp] theorem isInsC_str (C : Nat) (x : Str) (cs : List Cell) : isInsC C (.d (.str x)) cs = false := rfl
@[simp] theorem isInsC_tup (C : Nat) (x : List D) (cs : List Cell) : isInsC C (.d (.tup x)) cs = false := rfl
@[simp] theorem isInsC_lst (C : Nat) (x : List D) (cs : List Cell) : isInsC C (.d (.lst x)) cs = false := rfl
/-! types -/
@[simp] theorem tgV_d (x : D) (cs : List Cell) : tgV (.d x) cs = tgD x := rfl
@[simp] theorem tgD_non : tgD .non = some (.ty "NoneType") := rfl
@[simp] theorem tgD_bl (b : Bool) : tgD (.bl b) = some (.ty "bool") := rfl
@[simp] theorem tgD_int (i : Int) : tgD (.int i) = some (.ty "int") := rfl
@[simp] theorem tgD_str (x : Str) : tgD (.str x) = some (.ty "str") := rfl
@[simp] theorem tgD_tup (ds : List D) : tgD (.tup ds) = some (.ty "tuple") := rfl
@[simp] theorem tgD_lst (ds : List D) : tgD (.lst ds) = some (.ty "list") := rfl
@[simp] theorem tgD_ins (C : Nat) (fs : List (Str × D)) : tgD (.ins C fs) = some (.own C) := rfl
def isi1 (Is : List Nat) (t : Tg) (c : D) : Option Val := if tgOk Is t = true then match c with
      | .tup us => (anyT Is t us).map fun b => .d (.bl b)
      | c => match clD c with
        | some u => (isT Is t u).map fun b => .d (.bl b)
        | none => none
      else none
def isi0 (Is : List Nat) (o : Option Tg) (c : D) : Option Val := match o with
  | none => none
  | some t => isi1 Is t c
@[simp] theorem isiO_eq (Is : List Nat) (x : Val) (c : D) (cs : List Cell) : isiO Is [x, .d c] cs = isi0 Is (tgV x cs) c := rfl
@[simp] theorem isi0_some (Is : List Nat) (t : Tg) (c : D) : isi0 Is (some t) c = isi1 Is t c := rfl
@[simp] theorem isi1_ty (Is : List Nat) (t : Tg) (n : String) : isi1 Is t (.ty n) = if tgOk Is t = true then (isT Is t (.ty n)).map fun b => .d (.bl b) else none := rfl
@[simp] theorem isi1_cl (Is : List Nat) (t : Tg) (C : Nat) : isi1 Is t (.cl C) = if tgOk Is t = true then (isT Is t (.own C)).map fun b => .d (.bl b) else none := rfl
@[simp] theorem isi1_tup (Is : List Nat) (t : Tg) (us : List D) : isi1 Is t (.tup us) = if tgOk Is t = true then (anyT Is t us).map fun b => .d (.bl b) else none := rfl
@[simp] theorem tgOk_ty (Is : List Nat) (n : String) : tgOk Is (.ty n) = true := rfl
@[simp] theorem tgOk_own (Is : List Nat) (C : Nat) : tgOk Is (.own C) = Is.contains C := rfl
@[simp] theorem tgIn_ty (Is : List Nat) (n : String) : tgIn Is (.ty n) = tyL.contains n := rfl
@[simp] theorem tgIn_own (Is : List Nat) (C : Nat) : tgIn Is (.own C) = Is.contains C := rfl
@[simp] theorem isT_tt (Is : List Nat) (a b : String) : isT Is (.ty a) (.ty b) = if (tyL.contains a && tyL.contains b && (b != "NoneType")) = true then some (a == b || (a == "bool" && b == "int")) else none := rfl
@[simp] theorem isT_to (Is : List Nat) (a : String) (C : Nat) : isT Is (.ty a) (.own C) = if (tyL.contains a && Is.contains C) = true then some false else none := rfl
@[simp] theorem isT_ot (Is : List Nat) (C : Nat) (b : String) : isT Is (.own C) (.ty b) = if (tyL.contains b && Is.contains C) = true then some false else none := rfl
@[simp] theorem isT_oo (Is : List Nat) (C C' : Nat) : isT Is (.own C) (.own C') = if (Is.contains C && Is.contains C') = true then some (decide (C = C')) else none := rfl
@[simp] theorem tyL_has (n : String) : tyL.contains n = (n == "NoneType" || (n == "bool" || (n == "int" || (n == "str" || (n == "tuple" || (n == "list" || n == "dict")))))) := by
  simp only [tyL, List.contains_cons, List.contains_nil, Bool.or_false]
/-! own operators -/
@[simp] theorem k_bs2_eq (o : OS) (x y : Val) (s : S) : k_bs2 o x y s = o x y s := rfl
@[simp] theorem k_bs1_eq (o : OS) (fb : S → Res Val) (x : Val) (s : S) : k_bs1 o fb x s = bindR (fb s) (k_bs2 o x) := rfl
@[simp] theorem binS_eq (o : OS) (fa fb : S → Res Val) (st : S) : binS o fa fb st = bindR (fa st) (k_bs1 o fb) := rfl
@[simp] theorem ownO_eq (C : Nat) (F : FS) (x y : Val) (s : S) : ownO C F x y s = if (isInsC C x s.c && isInsC C y s.c) = true then liftF s.r (F [x, y] s.c) else .bad := rfl
theorem eqXO_own {Is : List Nat} {C : Nat} {F : FS} {o : O2} {x y : Val} {s : S} {t : Tg} (h : isInsC C x s.c = true) (ht : tgV y s.c = some t) (hi : tgIn Is t = true) : eqXO Is C F o x y s = liftF s.r (F [x, y] s.c) := by
  unfold eqXO; rw [if_pos h, ht]; exact if_pos hi
theorem eqXO_else {Is : List Nat} {C : Nat} {F : FS} {o : O2} {x y : Val} {s : S} (h : isInsC C x s.c = false) : eqXO Is C F o x y s = optR (o x y s.c) s := by
  unfold eqXO; rw [h]; rfl
theorem neXO_own {Is : List Nat} {C : Nat} {F : FS} {o : O2} {x y : Val} {s : S} {t : Tg} (h : isInsC C x s.c = true) (ht : tgV y s.c = some t) (hi : tgIn Is t = true) : neXO Is C F o x y s = notR (liftF s.r (F [x, y] s.c)) := by
  unfold neXO; rw [if_pos h, ht]; exact if_pos hi
theorem neXO_else {Is : List Nat} {C : Nat} {F : FS} {o : O2} {x y : Val} {s : S} (h : isInsC C x s.c = false) : neXO Is C F o x y s = optR (o x y s.c) s := by
  unfold neXO; rw [h]; rfl
@[simp] theorem notR_bl (b : Bool) (s : S) : notR (.ok (.d (.bl b)) s) = .ok (.d (.bl (!b))) s := rfl
/-! small ones -/
@[simp] theorem gcdO_eq (a b : Int) (cs : List Cell) : gcdO [.d (.int a), .d (.int b)] cs = some (.d (.int ((Nat.gcd a.natAbs b.natAbs : Nat) : Int))) := rfl
@[simp] theorem strO_int (i : Int) (cs : List Cell) : strO [.d (.int i)] cs = if smallI i = true then some (.d (.str (toString i))) else none := rfl
@[simp] theorem strO_str (a : Str) (cs : List Cell) : strO [.d (.str a)] cs = some (.d (.str a)) := rfl
@[simp] theorem fmtO_int (i : Int) (cs : List Cell) : fmtO (.d (.int i)) cs = if smallI i = true then some (.d (.str (toString i))) else none := rfl
@[simp] theorem fmtO_str (a : Str) (cs : List Cell) : fmtO (.d (.str a)) cs = if sz a.length = true then some (.d (.str a)) else none := rfl
theorem smallI_of {i : Int} {n : Nat} (h : i.natAbs < 2 ^ n) (hn : n ≤ 1920) : smallI i = true := by
  refine decide_eq_true ?_
  by_cases z : i.natAbs = 0
  · rw [z]; decide
  · have := (Nat.log2_lt z).mpr h
    omega
@[simp] theorem jsF_nil (acc : Str) (s : S) : jsF [] acc s = .ok (.d (.str acc)) s := rfl
def k_js (fs : List (S → Res Val)) (acc : Str) (x : Val) (s : S) : Res Val := js1 (jsF fs) acc x s
@[simp] theorem jsF_cons (f : S → Res Val) (fs : List (S → Res Val)) (acc : Str) (s : S) : jsF (f :: fs) acc s = bindR (f s) (k_js fs acc) := rfl
@[simp] theorem k_js_eq (fs : List (S → Res Val)) (acc y : Str) (s : S) : k_js fs acc (.d (.str y)) s = if sz ((acc ++ y).length) = true then jsF fs (acc ++ y) s else .bad := rfl
@[simp] theorem isNB_d (x : D) : isNB (.d x) = (match x with | .non => true | _ => false) := by cases x <;> rfl
@[simp] theorem isNO_eq (x : Val) (cs : List Cell) : isNO x (.d .non) cs = some (.d (.bl (isNB x))) := rfl
@[simp] theorem isntNO_eq (x : Val) (cs : List Cell) : isntNO x (.d .non) cs = some (.d (.bl (!isNB x))) := rfl
@[simp] theorem isNB_rf (j : Nat) : isNB (.rf j) = false := rfl
@[simp] theorem k_repr_eq (C : Nat) (F : FS) (x : Val) (s : S) : k_repr C F x s = if isInsC C x s.c = true then reprR (liftF s.r (F [x] s.c)) else .bad := rfl
@[simp] theorem reprXF_eq (C : Nat) (F : FS) (f : S → Res Val) (st : S) : reprXF C F f st = bindR (f st) (k_repr C F) := rfl
@[simp] theorem reprR_str (y : Str) (s : S) : reprR (.ok (.d (.str y)) s) = .ok (.d (.str y)) s := rfl
/-! equality -/
@[simp] theorem denV_d (x : D) (cs : List Cell) : denV (.d x) cs = some x := rfl
theorem eqO_data {x y : D} {cs : List Cell} (hx : okq 60 x = true) (hy : okq 60 y = true) : eqO (.d x) (.d y) cs = some (.d (.bl (D.eqv x y))) := by
  unfold eqO eqB
  simp only [denV_d]
  cases es : strEq x y with
  | some b =>
    obtain ⟨p, q, rfl, rfl, rfl⟩ := strEq_some es
    by_cases z : p = q <;> simp [D.eqv, z]
  | none => simp [hx, hy]
theorem neO_data {x y : D} {cs : List Cell} (hx : okq 60 x = true) (hy : okq 60 y = true) : neO (.d x) (.d y) cs = some (.d (.bl (!D.eqv x y))) := by
  unfold neO eqB
  simp only [denV_d]
  cases es : strEq x y with
  | some b =>
    obtain ⟨p, q, rfl, rfl, rfl⟩ := strEq_some es
    by_cases z : p = q <;> simp [D.eqv, z]
  | none => simp [hx, hy]
@[simp] theorem eqO_int (i j : Int) (cs : List Cell) : eqO (.d (.int i)) (.d (.int j)) cs = some (.d (.bl (decide (i = j)))) := eqO_data rfl rfl
@[simp] theorem neO_int (i j : Int) (cs : List Cell) : neO (.d (.int i)) (.d (.int j)) cs = some (.d (.bl (!decide (i = j)))) := neO_data rfl rfl
@[simp] theorem eqO_bl (a b : Bool) (cs : List Cell) : eqO (.d (.bl a)) (.d (.bl b)) cs = some (.d (.bl (decide (a = b)))) := eqO_data rfl rfl
@[simp] theorem neO_bl (a b : Bool) (cs : List Cell) : neO (.d (.bl a)) (.d (.bl b)) cs = some (.d (.bl (!decide (a = b)))) := neO_data rfl rfl
@[simp] theorem eqO_str (a b : Str) (cs : List Cell) : eqO (.d (.str a)) (.d (.str b)) cs = some (.d (.bl (decide (a = b)))) := rfl
@[simp] theorem neO_str (a b : Str) (cs : List Cell) : neO (.d (.str a)) (.d (.str b)) cs = some (.d (.bl (!decide (a = b)))) := rfl
/-! loops over what is written out -/
def forK (g : D → S → Option S) (b : S → SRes) (r : List D) (x : SRes) : SRes := match x with
  | .nx s2 => forF g b r s2
  | .ct s2 => forF g b r s2
  | .brk s2 => .nx s2
  | z => z
def forG (g : D → S → Option S) (b : S → SRes) (r : List D) (o : Option S) : SRes := match o with
  | none => .bad
  | some s1 => forK g b r (b s1)
@[simp] theorem forF_nil (g : D → S → Option S) (b : S → SRes) (s : S) : forF g b [] s = .nx s := rfl
theorem forF_cons (g : D → S → Option S) (b : S → SRes) (d : D) (r : List D) (s : S) : forF g b (d :: r) s = forG g b r (g d s) := by
  unfold forG
  show (match g d s with | none => SRes.bad | some s1 => match b s1 with | .nx s2 => forF g b r s2 | .ct s2 => forF g b r s2 | .brk s2 => .nx s2 | z => z) = _
  cases g d s with
  | none => rfl
  | some s1 => cases b s1 <;> rfl
@[simp] theorem forG_some (g : D → S → Option S) (b : S → SRes) (r : List D) (s : S) : forG g b r (some s) = forK g b r (b s) := rfl
@[simp] theorem forK_nx (g : D → S → Option S) (b : S → SRes) (r : List D) (s : S) : forK g b r (.nx s) = forF g b r s := rfl
@[simp] theorem forK_ct (g : D → S → Option S) (b : S → SRes) (r : List D) (s : S) : forK g b r (.ct s) = forF g b r s := rfl
@[simp] theorem forK_brk (g : D → S → Option S) (b : S → SRes) (r : List D) (s : S) : forK g b r (.brk s) = .nx s := rfl
@[simp] theorem forK_ret (g : D → S → Option S) (b : S → SRes) (r : List D) (v : Val) (s : S) : forK g b r (.ret v s) = .ret v s := rfl
@[simp] theorem forK_exc (g : D → S → Option S) (b : S → SRes) (r : List D) (x : Exn) (s : S) : forK g b r (.exc x s) = .exc x s := rfl
/-! freezing -/
def fzC (j : Nat) (s : S) (o : Option Cell) : Res Val := match o with
  | some (.lst ds) => .ok (.d (.lst ds)) (fzS j (.lst ds) s)
  | _ => .bad
def fzV (s : S) (o : Option (Option Val)) : Res Val := match o with
  | some (some (.rf j)) => fzC j s s.c[j]?
  | some (some v) => .ok v s
  | _ => .bad
@[simp] theorem fzF_eq (i : Nat) (s : S) : fzF i s = fzV s s.r[i]? := by
  unfold fzF fzV fzC
  cases s.r[i]? with
  | none => rfl
  | some o => cases o with
    | none => rfl
    | some v => cases v <;> rfl
@[simp] theorem fzV_rf (s : S) (j : Nat) : fzV s (some (some (.rf j))) = fzC j s s.c[j]? := rfl
@[simp] theorem fzV_d (s : S) (x : D) : fzV s (some (some (.d x))) = .ok (.d x) s := rfl
@[simp] theorem fzC_lst (j : Nat) (s : S) (ds : List D) : fzC j s (some (.lst ds)) = .ok (.d (.lst ds)) (fzS j (.lst ds) s) := rfl
@[simp] theorem fzS_c (j : Nat) (x : D) (s : S) : (fzS j x s).c = s.c.set j .dead := rfl
@[simp] theorem rngO_1 (n : Int) : rngO [.d (.int n)] = if okR n = true then some (rangeD 0 n.toNat) else none := rfl
@[simp] theorem rngO_2 (a n : Int) : rngO [.d (.int a), .d (.int n)] = if (okR a && okR n) = true then some (rangeD a (n - a).toNat) else none := rfl
theorem okR_of {n : Int} (h : -1000000000 ≤ n) (k : n ≤ 1000000000) : okR n = true := decide_eq_true ⟨h, k⟩
@[simp] theorem rangeD_zero (a : Int) : rangeD a 0 = [] := rfl
theorem rangeD_succ (a : Int) (n : Nat) : rangeD a (n + 1) = .int a :: rangeD (a + 1) n := by
  unfold rangeD
  rw [List.range_succ_eq_map, List.map_cons, List.map_map]
  congr 1
  · simp
  · apply List.map_congr_left
    intro i _
    simp only [Function.comp]
    congr 1
    omega
end
end FL

set_option Elab.async false
set_option linter.all false
set_option maxRecDepth 100000
set_option maxHeartbeats 4000000
namespace FL
open PySem PySem.Spec L2
/-! loops by an invariant -/
/-- each turn goes on -/
theorem forF_inv {g : D → S → Option S} {b : S → SRes} (P : List D → S → Prop) (step : ∀ d r s, P (d :: r) s → ∃ s1 s2, g d s = some s1 ∧ (b s1 = .nx s2 ∨ b s1 = .ct s2) ∧ P r s2) : ∀ (ds : List D) (s : S), P ds s → ∃ s', forF g b ds s = .nx s' ∧ P [] s'
  | [], s, h => ⟨s, rfl, h⟩
  | d :: r, s, h => by
    obtain ⟨s1, s2, e1, e2, h2⟩ := step d r s h
    obtain ⟨s3, e3, h3⟩ := forF_inv P step r s2 h2
    refine ⟨s3, ?_, h3⟩
    rw [forF_cons, e1, forG_some]
    rcases e2 with e2 | e2 <;> rw [e2] <;> simpa using e3
/-- .. or the loop is left by return with the value v -/
theorem forF_ret {g : D → S → Option S} {b : S → SRes} (P : List D → S → Prop) (R : Val → S → Prop) (step : ∀ d r s, P (d :: r) s → ∃ s1, g d s = some s1 ∧ ((∃ s2, (b s1 = .nx s2 ∨ b s1 = .ct s2) ∧ P r s2) ∨ ∃ v s2, b s1 = .ret v s2 ∧ R v s2)) :
    ∀ (ds : List D) (s : S), P ds s → (∃ s', forF g b ds s = .nx s' ∧ P [] s') ∨ ∃ v s', forF g b ds s = .ret v s' ∧ R v s'
  | [], s, h => .inl ⟨s, rfl, h⟩
  | d :: r, s, h => by
    obtain ⟨s1, e1, ⟨s2, e2, h2⟩ | ⟨v, s2, e2, h2⟩⟩ := step d r s h
    · have key : forF g b (d :: r) s = forF g b r s2 := by
        rw [forF_cons, e1, forG_some]
        rcases e2 with e2 | e2 <;> rw [e2] <;> simp
      rw [key]
      exact forF_ret P R step r s2 h2
    · refine .inr ⟨v, s2, ?_, h2⟩
      rw [forF_cons, e1, forG_some, e2, forK_ret]
/-- the turns of a comprehension: each item gives some data or none -/
theorem lcL_map {g : D → S → Option S} {t : S → Res Bool} {f : S → Res Val} {vs : List Nat} {r : List (Option Val)} {c : List Cell} (gd : D → Option D) : ∀ (ds acc : List D), acc.length + ds.length ≤ 1000000 →
    (∀ d ∈ ds, ∀ acc, ∃ s1, g d ⟨r, c ++ [.lst acc]⟩ = some s1 ∧ match gd d with
      | some y => ∃ s2 s3, t s1 = .ok true s2 ∧ f s2 = .ok (.d y) s3 ∧ s3.c = c ++ [.lst acc] ∧ wipeR s3.r vs = r
      | none => ∃ s2, t s1 = .ok false s2 ∧ s2.c = c ++ [.lst acc] ∧ wipeR s2.r vs = r) →
    lcL g t f vs c.length ds ⟨r, c ++ [.lst acc]⟩ = some ⟨r, c ++ [.lst (acc ++ ds.filterMap gd)]⟩
  | [], acc, _, _ => by unfold lcL; simp
  | d :: ds, acc, hl, h => by
    obtain ⟨s1, e1, h1⟩ := h d List.mem_cons_self acc
    unfold lcL
    rw [e1]
    simp only
    cases eg : gd d with
    | none =>
      rw [eg] at h1
      obtain ⟨s2, e2, e3, e4⟩ := h1
      rw [e2]
      simp only
      rw [e3, e4, lcL_map gd ds acc (by simp at hl; omega) fun d hd => h d (List.mem_cons_of_mem _ hd)]
      simp [eg]
    | some y =>
      rw [eg] at h1
      obtain ⟨s2, s3, e2, e3, e4, e5⟩ := h1
      rw [e2]
      simp only
      rw [e3]
      simp only
      rw [e4, e5]
      simp only [getElem?_append_self, set_append_self]
      rw [if_pos (sz_of (by simp at hl; omega)), lcL_map gd ds (acc ++ [y]) (by simp at hl ⊢; omega) fun d hd => h d (List.mem_cons_of_mem _ hd)]
      simp [eg]
theorem lcF_map {it : S → Res (List D)} {g : D → S → Option S} {t : S → Res Bool} {f : S → Res Val} {vs : List Nat} {st s : S} {ds : List D} (gd : D → Option D) (hi : it st = .ok ds s) (hl : ds.length ≤ 1000000)
    (h : ∀ d ∈ ds, ∀ acc, ∃ s1, g d ⟨wipeR s.r vs, s.c ++ [.lst acc]⟩ = some s1 ∧ match gd d with
      | some y => ∃ s2 s3, t s1 = .ok true s2 ∧ f s2 = .ok (.d y) s3 ∧ s3.c = s.c ++ [.lst acc] ∧ wipeR s3.r vs = wipeR s.r vs
      | none => ∃ s2, t s1 = .ok false s2 ∧ s2.c = s.c ++ [.lst acc] ∧ wipeR s2.r vs = wipeR s.r vs) : lcF it g t f vs st = .ok (ds.filterMap gd) s := by
  unfold lcF
  rw [hi]
  simp only [bindR_ok]
  rw [lcL_map gd ds [] (by simpa using hl) h]
  unfold lcO
  simp
/-- all items, one value each -/
theorem lcF_all {it : S → Res (List D)} {g : D → S → Option S} {f : S → Res Val} {vs : List Nat} {st s : S} {ds : List D} (gd : D → D) (hi : it st = .ok ds s) (hl : ds.length ≤ 1000000)
    (h : ∀ d ∈ ds, ∀ acc, ∃ s1 s3, g d ⟨wipeR s.r vs, s.c ++ [.lst acc]⟩ = some s1 ∧ f s1 = .ok (.d (gd d)) s3 ∧ s3.c = s.c ++ [.lst acc] ∧ wipeR s3.r vs = wipeR s.r vs) : lcF it g (fun st => .ok true st) f vs st = .ok (ds.map gd) s := by
  rw [lcF_map (fun d => some (gd d)) hi hl fun d hd acc => by
    obtain ⟨s1, s3, e1, e2, e3, e4⟩ := h d hd acc
    exact ⟨s1, e1, s1, s3, rfl, e2, e3, e4⟩]
  simp
@[simp] theorem wipeR_cons (r : List (Option Val)) (i : Nat) (vs : List Nat) : wipeR r (i :: vs) = (wipeR r vs).set i none := rfl
@[simp] theorem wipeR_nil (r : List (Option Val)) : wipeR r [] = r := rfl
section
variable {α : Type} {l m : List α} {a b c d x : α}
@[simp] theorem app_at0 : (l ++ a :: m)[l.length]? = some a := by simp
@[simp] theorem app_at1 : (l ++ a :: b :: m)[l.length + 1]? = some b := by rw [List.getElem?_append_right (by omega)]; simp
@[simp] theorem app_at2 : (l ++ a :: b :: c :: m)[l.length + 2]? = some c := by rw [List.getElem?_append_right (by omega)]; simp
@[simp] theorem app_at3 : (l ++ a :: b :: c :: d :: m)[l.length + 3]? = some d := by rw [List.getElem?_append_right (by omega)]; simp
@[simp] theorem take_app1 : (l ++ a :: m).take (l.length + 1) = l ++ [a] := by rw [List.take_append, List.take_of_length_le (by omega)]; simp
@[simp] theorem take_app2 : (l ++ a :: b :: m).take (l.length + 2) = l ++ [a, b] := by rw [List.take_append, List.take_of_length_le (by omega)]; simp
@[simp] theorem app_set0 : (l ++ a :: m).set l.length x = l ++ x :: m := by simp
@[simp] theorem app_set1 : (l ++ a :: b :: m).set (l.length + 1) x = l ++ a :: x :: m := by rw [List.set_append_right (h := by omega)]; simp
@[simp] theorem app_set2 : (l ++ a :: b :: c :: m).set (l.length + 2) x = l ++ a :: b :: x :: m := by rw [List.set_append_right (h := by omega)]; simp
@[simp] theorem app_set3 : (l ++ a :: b :: c :: d :: m).set (l.length + 3) x = l ++ a :: b :: c :: x :: m := by rw [List.set_append_right (h := by omega)]; simp
end
@[simp] theorem mem_tyL (n : String) : (n ∈ tyL) = (n ∈ ["NoneType", "bool", "int", "str", "tuple", "list", "dict"]) := rfl
/-! ints of a list -/
def Ints (ds : List D) : Prop := ∀ d ∈ ds, ∃ z : Int, d = .int z
theorem Ints.at {ds : List D} (h : Ints ds) {i : Nat} (hi : i < ds.length) : ∃ z : Int, ds[i]? = some (.int z) := by
  obtain ⟨z, e⟩ := h ds[i] (List.getElem_mem hi)
  exact ⟨z, by rw [List.getElem?_eq_getElem hi, e]⟩
theorem Ints.snoc {ds : List D} (h : Ints ds) (z : Int) : Ints (ds ++ [.int z]) := fun d hd => by
  rcases List.mem_append.mp hd with hd | hd
  · exact h d hd
  · exact ⟨z, by simpa using hd⟩
theorem Ints.set {ds : List D} (h : Ints ds) (i : Nat) (z : Int) : Ints (ds.set i (.int z)) := fun d hd => by
  rcases List.mem_or_eq_of_mem_set hd with hd | rfl
  · exact h d hd
  · exact ⟨z, rfl⟩
theorem ints_map (ns : List Int) : Ints (ns.map D.int) := fun d hd => by
  obtain ⟨z, _, e⟩ := List.mem_map.mp hd
  exact ⟨z, e.symm⟩
theorem ints_range (a : Int) (n : Nat) : ∀ d ∈ rangeD a n, ∃ z : Int, d = .int z ∧ a ≤ z ∧ z < a + n := fun d hd => by
  obtain ⟨i, hi, e⟩ := List.mem_map.mp hd
  have := List.mem_range.mp hi
  exact ⟨_, e.symm, by omega, by omega⟩
end FL

set_option Elab.async false
set_option linter.all false
set_option maxRecDepth 100000
set_option maxHeartbeats 4000000
namespace LW
open PySem PySem.Spec L2 FL
abbrev nE : Nat := 1
abbrev IsL : List Nat := [2]
abbrev N__law_draws : List Str := ["_law_script", "_law_many", "_law_cell", "_law_rests", "_law_draws_here", "_law_k", "_law_at", "_law_mixed"]
def l__law_draws_1 : S → Res (List D) := lcF (itF (nameF 0)) (nmG 2) (fun st => .ok true st) (cbF absO (aCons (cbF intO (aCons (nameF 2) aNil)) aNil)) [2]
def b__law_draws_1 : S → SRes := (seqS (setS 2 (nameF 5))
  (seqS (ifS (tstF (binF gtI (cbF lenO (aCons (nameF 0) aNil)) (cF (.int 0)))) (seqS (setS 6 (binF modI (nameF 5) (cbF lenO (aCons (nameF 0) aNil))))
  (seqS (setS 2 (cbF intO (aCons (binF ixO (nameF 0) (nameF 6)) aNil)))
  (ifS (andF (tstF (binF geI (nameF 2) (binF powI (cF (.int 10)) (cF (.int 18))))) (tstF (binF gtI (binF ixO (nameF 3) (nameF 6)) (cF (.int 0))))) (seqS (dropS (bmF isL appO (nameF 4) (aCons (binF modI (cbF intO (aCons (binF ixO (nameF 3) (nameF 6)) aNil)) (cF (.int 1000003))) aNil)))
  (seqS (setiS (nameF 3) (nameF 6) (binF divI (cbF intO (aCons (binF ixO (nameF 3) (nameF 6)) aNil)) (cF (.int 1000003))))
  ctS)) nxS))) nxS)
  (seqS (setS 7 (binF modI (cbF intO (aCons (binF addO (binF addO (binF mulI (nameF 2) (cF (.int 48271))) (binF mulI (nameF 5) (cF (.int 69621)))) (cF (.int 11))) aNil)) (cF (.int 2147483647))))
  (seqS (setS 7 (binF modI (cbF intO (aCons (binF addO (binF divI (binF mulI (nameF 7) (nameF 7)) (cF (.int 4096))) (nameF 7)) aNil)) (cF (.int 2147483629))))
  (dropS (bmF isL appO (nameF 4) (aCons (binF modI (cbF intO (aCons (binF addO (binF divI (binF mulI (nameF 7) (nameF 7)) (cF (.int 4096))) (binF mulI (nameF 5) (cF (.int 7919)))) aNil)) (cF (.int 2147483629))) aNil)))))))
def g__law_draws : S → SRes := (seqS (setCS 3 l__law_draws_1)
  (seqS (setCS 4 (lstF aNil))
  (seqS (forS (rngF (aCons (nameF 1) aNil)) (nmG 5) b__law_draws_1)
  (retS (fzF 4)))))
def F__law_draws : FS := fnF 8 g__law_draws
abbrev N__law_take : List Str := ["_law_hand", "_law_many", "_law_at", "_law_draws_here"]
def g__law_take : S → SRes := (seqS (setS 2 (binF ixO (nameF 0) (cF (.int 1))))
  (seqS (setiS (nameF 0) (cF (.int 1)) (binF addO (nameF 2) (cF (.int 1))))
  (seqS (setS 3 (binF ixO (nameF 0) (cF (.int 0))))
  (seqS (ifS (tstF (binF geI (nameF 2) (cbF lenO (aCons (nameF 3) aNil)))) (retS (cF (.int 0))) nxS)
  (retS (binF modI (binF divI (cbF intO (aCons (binF ixO (nameF 3) (nameF 2)) aNil)) (cF (.int 7))) (nameF 1)))))))
def F__law_take : FS := fnF 4 g__law_take
abbrev N__law_integer : List Str := ["_law_hand", "_law_kind", "_law_number", "_law_step"]
def b__law_integer_1 : S → SRes := (setS 2 (binF addO (binF mulI (nameF 2) (cF (.int 100003))) (callF F__law_take 2 (aCons (nameF 0) (aCons (cF (.int 100003)) aNil)))))
def g__law_integer : S → SRes := (seqS (setS 1 (callF F__law_take 2 (aCons (nameF 0) (aCons (cF (.int 6)) aNil))))
  (seqS (ifS (tstF (binF eqO (nameF 1) (cF (.int 0)))) (seqS (setS 2 (binF addO (binF mulI (binF addO (binF mulI (callF F__law_take 2 (aCons (nameF 0) (aCons (cF (.int 100003)) aNil))) (cF (.int 100003))) (callF F__law_take 2 (aCons (nameF 0) (aCons (cF (.int 100003)) aNil)))) (cF (.int 100003))) (callF F__law_take 2 (aCons (nameF 0) (aCons (cF (.int 100003)) aNil)))))
  (seqS (forS (rngF (aCons (callF F__law_take 2 (aCons (nameF 0) (aCons (cF (.int 5)) aNil))) aNil)) (nmG 3) b__law_integer_1)
  (retS (binF mulI (nameF 2) (binF ixO (frzF (lstF (aCons (cF (.int 1)) (aCons (unF negI (cF (.int 1))) aNil)))) (callF F__law_take 2 (aCons (nameF 0) (aCons (cF (.int 2)) aNil)))))))) nxS)
  (retS (binF subI (callF F__law_take 2 (aCons (nameF 0) (aCons (cF (.int 13)) aNil))) (cF (.int 6))))))
def F__law_integer : FS := fnF 4 g__law_integer
abbrev N__law_divisor : List Str := ["_law_a", "_law_b", "_law_step", "_law_left"]
def b__law_divisor_1 : S → SRes := (seqS (ifS (tstF (binF eqO (nameF 1) (cF (.int 0)))) (retS (nameF 0)) nxS)
  (seqS (setS 3 (binF modI (cbF intO (aCons (nameF 0) aNil)) (nameF 1)))
  (seqS (setS 0 (nameF 1))
  (setS 1 (nameF 3)))))
def g__law_divisor : S → SRes := (seqS (forS (rngF (aCons (cF (.int 600)) aNil)) (nmG 2) b__law_divisor_1)
  (retS (nameF 0)))
def F__law_divisor : FS := fnF 4 g__law_divisor
abbrev N__law_lowest : List Str := ["_law_over", "_law_under", "_law_part"]
def g__law_lowest (F : FS) : S → SRes := (seqS (ifS (tstF (binF ltI (nameF 1) (cF (.int 0)))) (retS (callF F 2 (aCons (unF negI (nameF 0)) (aCons (unF negI (nameF 1)) aNil)))) nxS)
  (seqS (setS 2 (callF F__law_divisor 2 (aCons (cbF absO (aCons (nameF 0) aNil)) (aCons (nameF 1) aNil))))
  (retS (tupF (aCons (binF divI (nameF 0) (nameF 2)) (aCons (binF divI (nameF 1) (nameF 2)) aNil))))))
def F__law_lowest : Nat → FS
  | 0 => fun _ _ => .bad
  | n + 1 => fnF 3 (g__law_lowest (F__law_lowest n))
abbrev N_is_integer : List Str := ["value"]
def g_is_integer : S → SRes := (retS (andV (cbF (isiO IsL) (aCons (nameF 0) (aCons (cF (.ty "int")) aNil))) (notV (cbF (isiO IsL) (aCons (nameF 0) (aCons (cF (.ty "bool")) aNil))))))
def F_is_integer : FS := fnF 1 g_is_integer
abbrev N_Share___init__ : List Str := ["self", "over", "under", "common"]
def g_Share___init__ : S → SRes := (seqS (ifS (notF (tstF (callF F_is_integer 1 (aCons (nameF 1) aNil)))) (raiseS 1 [("value" : Str)] (aCons (nameF 1) aNil)) nxS)
  (seqS (ifS (orF (notF (tstF (callF F_is_integer 1 (aCons (nameF 2) aNil)))) (tstF (binF eqO (nameF 2) (cF (.int 0))))) (raiseS 1 [("value" : Str)] (aCons (nameF 2) aNil)) nxS)
  (seqS (setS 3 (cbF gcdO (aCons (nameF 1) (aCons (nameF 2) aNil))))
  (seqS (ifS (tstF (binF ltI (nameF 2) (cF (.int 0)))) (setS 3 (unF negI (nameF 3))) nxS)
  (seqS (setfS 2 ("over" : Str) (nameF 0) (binF divI (nameF 1) (nameF 3)))
  (setfS 2 ("under" : Str) (nameF 0) (binF divI (nameF 2) (nameF 3))))))))
def F_Share___init__ : FS := fnF 4 g_Share___init__
abbrev N_Share___repr__ : List Str := ["self"]
def g_Share___repr__ : S → SRes := (retS (jsF [(cF (.str ("Share(" : Str))), (unF fmtO (fldF [2] ("over" : Str) (nameF 0))), (cF (.str (", " : Str))), (unF fmtO (fldF [2] ("under" : Str) (nameF 0))), (cF (.str (")" : Str)))] Str.empty))
def F_Share___repr__ : FS := fnF 1 g_Share___repr__
abbrev N_Share___eq__ : List Str := ["self", "other"]
def g_Share___eq__ : S → SRes := (retS (andV (cbF (isiO IsL) (aCons (nameF 1) (aCons (cF (.cl 2)) aNil))) (andV (binF eqO (fldF [2] ("over" : Str) (nameF 0)) (fldF [2] ("over" : Str) (nameF 1))) (binF eqO (fldF [2] ("under" : Str) (nameF 0)) (fldF [2] ("under" : Str) (nameF 1))))))
def F_Share___eq__ : FS := fnF 2 g_Share___eq__
abbrev N__law_like : List Str := ["_law_found", "_law_due", "_law_at"]
def b__law_like_1 (F : FS) : S → SRes := (ifS (notF (tstF (callF F 2 (aCons (binF ixO (nameF 0) (nameF 2)) (aCons (binF ixO (nameF 1) (nameF 2)) aNil))))) (retS (cF (.bl false))) nxS)
def g__law_like (F : FS) : S → SRes := (seqS (ifS (orF (tstF (cbF (isiO IsL) (aCons (nameF 1) (aCons (cF (.ty "tuple")) aNil)))) (tstF (cbF (isiO IsL) (aCons (nameF 1) (aCons (cF (.ty "list")) aNil))))) (seqS (ifS (orF (tstF (binF neO (cbF (isiO IsL) (aCons (nameF 0) (aCons (cF (.ty "tuple")) aNil))) (cbF (isiO IsL) (aCons (nameF 1) (aCons (cF (.ty "tuple")) aNil))))) (tstF (binF neO (cbF (isiO IsL) (aCons (nameF 0) (aCons (cF (.ty "list")) aNil))) (cbF (isiO IsL) (aCons (nameF 1) (aCons (cF (.ty "list")) aNil)))))) (retS (cF (.bl false))) nxS)
  (seqS (ifS (tstF (binF neO (cbF lenO (aCons (nameF 0) aNil)) (cbF lenO (aCons (nameF 1) aNil)))) (retS (cF (.bl false))) nxS)
  (seqS (forS (rngF (aCons (cbF lenO (aCons (nameF 1) aNil)) aNil)) (nmG 2) (b__law_like_1 F))
  (retS (cF (.bl true)))))) nxS)
  (seqS (ifS (tstF (binF isNO (nameF 1) (cF .non))) (retS (binF isNO (nameF 0) (cF .non))) nxS)
  (seqS (ifS (orF (tstF (cbF (isiO IsL) (aCons (nameF 1) (aCons (cF (.ty "bool")) aNil)))) (tstF (cbF (isiO IsL) (aCons (nameF 0) (aCons (cF (.ty "bool")) aNil))))) (retS (andV (cbF (isiO IsL) (aCons (nameF 1) (aCons (cF (.ty "bool")) aNil))) (andV (cbF (isiO IsL) (aCons (nameF 0) (aCons (cF (.ty "bool")) aNil))) (binF eqO (nameF 0) (nameF 1))))) nxS)
  (seqS (ifS (tstF (cbF (isiO IsL) (aCons (nameF 1) (aCons (cF (.ty "str")) aNil)))) (retS (andV (cbF (isiO IsL) (aCons (nameF 0) (aCons (cF (.ty "str")) aNil))) (binF eqO (nameF 0) (nameF 1)))) nxS)
  (seqS (ifS (tstF (cbF (isiO IsL) (aCons (nameF 1) (aCons (cF (.ty "int")) aNil)))) (retS (andV (cbF (isiO IsL) (aCons (nameF 0) (aCons (cF (.ty "int")) aNil))) (binF eqO (nameF 0) (nameF 1)))) nxS)
  (retS (binS (eqXO IsL 2 F_Share___eq__ eqO) (nameF 0) (nameF 1))))))))
def F__law_like : Nat → FS
  | 0 => fun _ _ => .bad
  | n + 1 => fnF 3 (g__law_like (F__law_like n))
abbrev N__law_is_share : List Str := ["_law_found", "_law_pair", "_law_part"]
def b__law_is_share_1 : S → SRes := (ifS (orF (notF (tstF (cbF (isiO IsL) (aCons (nameF 2) (aCons (cF (.ty "int")) aNil))))) (tstF (cbF (isiO IsL) (aCons (nameF 2) (aCons (cF (.ty "bool")) aNil))))) (retS (cF (.bl false))) nxS)
def g__law_is_share : S → SRes := (seqS (ifS (notF (tstF (cbF (isiO IsL) (aCons (nameF 0) (aCons (cF (.cl 2)) aNil))))) (retS (cF (.bl false))) nxS)
  (seqS (forS (itF (frzF (lstF (aCons (fldF [2] ("over" : Str) (nameF 0)) (aCons (fldF [2] ("under" : Str) (nameF 0)) aNil))))) (nmG 2) b__law_is_share_1)
  (retS (binF eqO (tupF (aCons (fldF [2] ("over" : Str) (nameF 0)) (aCons (fldF [2] ("under" : Str) (nameF 0)) aNil))) (nameF 1)))))
def F__law_is_share : FS := fnF 3 g__law_is_share
abbrev N_Share___sub__ : List Str := ["self", "other"]
def g_Share___sub__ : S → SRes := (retS (makeF 2 F_Share___init__ 2 (aCons (binF subI (binF mulI (fldF [2] ("over" : Str) (nameF 0)) (fldF [2] ("under" : Str) (nameF 1))) (binF mulI (fldF [2] ("over" : Str) (nameF 1)) (fldF [2] ("under" : Str) (nameF 0)))) (aCons (binF mulI (fldF [2] ("under" : Str) (nameF 0)) (fldF [2] ("under" : Str) (nameF 1))) aNil))))
def F_Share___sub__ : FS := fnF 2 g_Share___sub__
abbrev N__law_sum : List Str := ["_law_one", "_law_two"]
def g__law_sum : S → SRes := (retS (callF (F__law_lowest 2) 2 (aCons (binF addO (binF mulI (binF ixO (nameF 0) (cF (.int 0))) (binF ixO (nameF 1) (cF (.int 1)))) (binF mulI (binF ixO (nameF 1) (cF (.int 0))) (binF ixO (nameF 0) (cF (.int 1))))) (aCons (binF mulI (binF ixO (nameF 0) (cF (.int 1))) (binF ixO (nameF 1) (cF (.int 1)))) aNil))))
def F__law_sum : FS := fnF 2 g__law_sum
abbrev N_Share___add__ : List Str := ["self", "other"]
def g_Share___add__ : S → SRes := (retS (makeF 2 F_Share___init__ 2 (aCons (binF addO (binF mulI (fldF [2] ("over" : Str) (nameF 0)) (fldF [2] ("under" : Str) (nameF 1))) (binF mulI (fldF [2] ("over" : Str) (nameF 1)) (fldF [2] ("under" : Str) (nameF 0)))) (aCons (binF mulI (fldF [2] ("under" : Str) (nameF 0)) (fldF [2] ("under" : Str) (nameF 1))) aNil))))
def F_Share___add__ : FS := fnF 2 g_Share___add__
abbrev N_Share___mul__ : List Str := ["self", "other"]
def g_Share___mul__ : S → SRes := (retS (makeF 2 F_Share___init__ 2 (aCons (binF mulI (fldF [2] ("over" : Str) (nameF 0)) (fldF [2] ("over" : Str) (nameF 1))) (aCons (binF mulI (fldF [2] ("under" : Str) (nameF 0)) (fldF [2] ("under" : Str) (nameF 1))) aNil))))
def F_Share___mul__ : FS := fnF 2 g_Share___mul__
abbrev N_Share_is_below : List Str := ["self", "other"]
def g_Share_is_below : S → SRes := (retS (binF ltI (binF mulI (fldF [2] ("over" : Str) (nameF 0)) (fldF [2] ("under" : Str) (nameF 1))) (binF mulI (fldF [2] ("over" : Str) (nameF 1)) (fldF [2] ("under" : Str) (nameF 0)))))
def F_Share_is_below : FS := fnF 2 g_Share_is_below
abbrev N__law_pair_right : List Str := ["_law_one", "_law_two", "_law_a", "_law_b", "_law_told_here", "_law_due"]
def g__law_pair_right : S → SRes := (seqS (ifS (orF (notF (tstF (callF F__law_is_share 2 (aCons (binS (ownO 2 F_Share___add__) (nameF 2) (nameF 3)) (aCons (callF F__law_sum 2 (aCons (nameF 0) (aCons (nameF 1) aNil))) aNil))))) (notF (tstF (callF F__law_is_share 2 (aCons (binS (ownO 2 F_Share___sub__) (nameF 2) (nameF 3)) (aCons (callF F__law_sum 2 (aCons (nameF 0) (aCons (tupF (aCons (unF negI (binF ixO (nameF 1) (cF (.int 0)))) (aCons (binF ixO (nameF 1) (cF (.int 1))) aNil))) aNil))) aNil)))))) (retS (cF (.bl false))) nxS)
  (seqS (ifS (notF (tstF (callF F__law_is_share 2 (aCons (binS (ownO 2 F_Share___mul__) (nameF 2) (nameF 3)) (aCons (callF (F__law_lowest 2) 2 (aCons (binF mulI (binF ixO (nameF 0) (cF (.int 0))) (binF ixO (nameF 1) (cF (.int 0)))) (aCons (binF mulI (binF ixO (nameF 0) (cF (.int 1))) (binF ixO (nameF 1) (cF (.int 1)))) aNil))) aNil))))) (retS (cF (.bl false))) nxS)
  (seqS (setS 4 (frzF (lstF (aCons (binS (eqXO IsL 2 F_Share___eq__ eqO) (nameF 2) (nameF 3)) (aCons (binS (neXO IsL 2 F_Share___eq__ neO) (nameF 2) (nameF 3)) (aCons (methF [(2, F_Share_is_below)] ("is_below" : Str) 1 (nameF 2) (aCons (nameF 3) aNil)) aNil))))))
  (seqS (setS 5 (frzF (lstF (aCons (binF eqO (nameF 0) (nameF 1)) (aCons (binF neO (nameF 0) (nameF 1)) (aCons (binF ltI (binF mulI (binF ixO (nameF 0) (cF (.int 0))) (binF ixO (nameF 1) (cF (.int 1)))) (binF mulI (binF ixO (nameF 1) (cF (.int 0))) (binF ixO (nameF 0) (cF (.int 1))))) aNil))))))
  (retS (callF (F__law_like 4) 2 (aCons (nameF 4) (aCons (nameF 5) aNil))))))))
def F__law_pair_right : FS := fnF 6 g__law_pair_right
abbrev N_Share_whole : List Str := ["cls", "number"]
def g_Share_whole : S → SRes := (seqS (ifS (notF (tstF (callF F_is_integer 1 (aCons (nameF 1) aNil)))) (raiseS 1 [("value" : Str)] (aCons (nameF 1) aNil)) nxS)
  (retS (makeLF 0 2 F_Share___init__ 2 (aCons (nameF 1) (aCons (cF (.int 1)) aNil)))))
def F_Share_whole : FS := fnF 2 g_Share_whole
abbrev N__law_told : List Str := ["_law_over", "_law_under", "e"]
def g__law_told : S → SRes := (seqS (tryS (subL nE) (dropS (makeF 2 F_Share___init__ 2 (aCons (nameF 0) (aCons (nameF 1) aNil)))) [(1, some 2, fun x => (retS (frzF (lstF (aCons (cF (.str ("number" : Str))) (aCons (xfF x ("value" : Str)) aNil))))))])
  (retS (frzF (lstF (aCons (cF (.str ("fine" : Str))) (aCons (cF (.int 0)) aNil))))))
def F__law_told : FS := fnF 3 g__law_told
abbrev N__law_whole_told : List Str := ["_law_number", "e"]
def g__law_whole_told : S → SRes := (seqS (tryS (subL nE) (dropS (cmF 2 F_Share_whole 1 (aCons (nameF 0) aNil))) [(1, some 1, fun x => (retS (frzF (lstF (aCons (cF (.str ("number" : Str))) (aCons (xfF x ("value" : Str)) aNil))))))])
  (retS (frzF (lstF (aCons (cF (.str ("fine" : Str))) (aCons (cF (.int 0)) aNil))))))
def F__law_whole_told : FS := fnF 2 g__law_whole_told
abbrev N_law : List Str := ["_law_script", "_law_hand", "_law_pairs", "_law_shares", "_law_k", "_law_over", "_law_under", "_law_text", "_law_j", "_law_other", "_law_number", "_law_wrong", "_law_more"]
def b_law_1 : S → SRes := (seqS (setS 5 (callF F__law_integer 1 (aCons (nameF 1) aNil)))
  (seqS (setS 6 (callF F__law_integer 1 (aCons (nameF 1) aNil)))
  (seqS (ifS (tstF (binF eqO (nameF 6) (cF (.int 0)))) (setS 6 (binF subI (cF (.int 1)) (binF mulI (cF (.int 2)) (callF F__law_take 2 (aCons (nameF 1) (aCons (cF (.int 2)) aNil)))))) nxS)
  (seqS (dropS (bmF isL appO (nameF 2) (aCons (callF (F__law_lowest 2) 2 (aCons (nameF 5) (aCons (nameF 6) aNil))) aNil)))
  (dropS (bmF isL appO (nameF 3) (aCons (makeF 2 F_Share___init__ 2 (aCons (nameF 5) (aCons (nameF 6) aNil))) aNil)))))))
def b_law_2 : S → SRes := (ifS (notF (tstF (callF F__law_pair_right 4 (aCons (binF ixO (nameF 2) (nameF 4)) (aCons (binF ixO (nameF 2) (nameF 8)) (aCons (binF ixO (nameF 3) (nameF 4)) (aCons (binF ixO (nameF 3) (nameF 8)) aNil))))))) (retS (cF (.bl false))) nxS)
def b_law_3 : S → SRes := (ifS (notF (tstF (callF (F__law_like 4) 2 (aCons (frzF (lstF (aCons (binS (eqXO IsL 2 F_Share___eq__ eqO) (binF ixO (nameF 3) (nameF 4)) (nameF 9)) (aCons (binS (neXO IsL 2 F_Share___eq__ neO) (binF ixO (nameF 3) (nameF 4)) (nameF 9)) aNil)))) (aCons (frzF (lstF (aCons (cF (.bl false)) (aCons (cF (.bl true)) aNil)))) aNil))))) (retS (cF (.bl false))) nxS)
def b_law_4 : S → SRes := (seqS (setS 7 (binF addO (binF addO (binF addO (binF addO (cF (.str ("Share(" : Str))) (cbF strO (aCons (binF ixO (binF ixO (nameF 2) (nameF 4)) (cF (.int 0))) aNil))) (cF (.str (", " : Str)))) (cbF strO (aCons (binF ixO (binF ixO (nameF 2) (nameF 4)) (cF (.int 1))) aNil))) (cF (.str (")" : Str)))))
  (seqS (ifS (orF (notF (tstF (callF F__law_is_share 2 (aCons (binF ixO (nameF 3) (nameF 4)) (aCons (binF ixO (nameF 2) (nameF 4)) aNil))))) (notF (tstF (callF (F__law_like 4) 2 (aCons (reprXF 2 F_Share___repr__ (binF ixO (nameF 3) (nameF 4))) (aCons (nameF 7) aNil)))))) (retS (cF (.bl false))) nxS)
  (seqS (forS (rngF (aCons (cF (.int 3)) aNil)) (nmG 8) b_law_2)
  (forS (itF (frzF (lstF (aCons (cF .non) (aCons (cF (.bl true)) (aCons (cF (.int 0)) (aCons (cF (.int 1)) (aCons (binF ixO (binF ixO (nameF 2) (nameF 4)) (cF (.int 0))) (aCons (binF ixO (nameF 2) (nameF 4)) (aCons (frzF (lstF (aCons (binF ixO (nameF 3) (nameF 4)) aNil))) (aCons (cF (.str ("1" : Str))) (aCons (nameF 7) aNil)))))))))))) (nmG 9) b_law_3))))
def g_law : S → SRes := (seqS (setCS 1 (lstF (aCons (callF F__law_draws 2 (aCons (nameF 0) (aCons (cF (.int 200)) aNil))) (aCons (cF (.int 0)) aNil))))
  (seqS (setCS 2 (lstF aNil))
  (seqS (setCS 3 (lstF aNil))
  (seqS (forS (rngF (aCons (cF (.int 3)) aNil)) (nmG 4) b_law_1)
  (seqS (forS (rngF (aCons (cF (.int 3)) aNil)) (nmG 4) b_law_4)
  (seqS (setS 10 (callF F__law_integer 1 (aCons (nameF 1) aNil)))
  (seqS (ifS (orF (notF (tstF (callF F__law_is_share 2 (aCons (cmF 2 F_Share_whole 1 (aCons (nameF 10) aNil)) (aCons (tupF (aCons (nameF 10) (aCons (cF (.int 1)) aNil))) aNil))))) (notF (tstF (callF F__law_is_share 2 (aCons (makeKF 2 F_Share___init__ 0 2 (permG [1, 0]) aNil (aCons (cF (.int 2)) (aCons (cF (.int 3)) aNil))) (aCons (tupF (aCons (cF (.int 3)) (aCons (cF (.int 2)) aNil))) aNil)))))) (retS (cF (.bl false))) nxS)
  (seqS (setS 11 (binF ixO (frzF (lstF (aCons (cF (.bl true)) (aCons (cF .non) (aCons (cF (.str ("1" : Str))) (aCons (tupF (aCons (cF (.int 1)) aNil)) (aCons (frzF (lstF (aCons (cF (.int 1)) aNil))) (aCons (cF (.bl false)) (aCons (binF ixO (nameF 3) (cF (.int 0))) aNil))))))))) (callF F__law_take 2 (aCons (nameF 1) (aCons (cF (.int 7)) aNil)))))
  (seqS (setS 12 (binF ixO (frzF (lstF (aCons (cF (.bl true)) (aCons (cF .non) (aCons (cF (.str ("2" : Str))) (aCons (tupF (aCons (cF (.int 2)) aNil)) (aCons (cF (.bl false)) aNil))))))) (callF F__law_take 2 (aCons (nameF 1) (aCons (cF (.int 5)) aNil)))))
  (seqS (ifS (orF (notF (tstF (callF (F__law_like 4) 2 (aCons (callF F__law_told 2 (aCons (nameF 11) (aCons (nameF 12) aNil))) (aCons (frzF (lstF (aCons (cF (.str ("number" : Str))) (aCons (nameF 11) aNil)))) aNil))))) (notF (tstF (callF (F__law_like 4) 2 (aCons (callF F__law_told 2 (aCons (nameF 10) (aCons (nameF 12) aNil))) (aCons (frzF (lstF (aCons (cF (.str ("number" : Str))) (aCons (nameF 12) aNil)))) aNil)))))) (retS (cF (.bl false))) nxS)
  (seqS (ifS (orF (notF (tstF (callF (F__law_like 4) 2 (aCons (callF F__law_told 2 (aCons (nameF 11) (aCons (cF (.int 0)) aNil))) (aCons (frzF (lstF (aCons (cF (.str ("number" : Str))) (aCons (nameF 11) aNil)))) aNil))))) (notF (tstF (callF (F__law_like 4) 2 (aCons (callF F__law_told 2 (aCons (nameF 10) (aCons (cF (.int 0)) aNil))) (aCons (frzF (lstF (aCons (cF (.str ("number" : Str))) (aCons (cF (.int 0)) aNil)))) aNil)))))) (retS (cF (.bl false))) nxS)
  (retS (callF (F__law_like 4) 2 (aCons (callF F__law_whole_told 1 (aCons (nameF 11) aNil)) (aCons (frzF (lstF (aCons (cF (.str ("number" : Str))) (aCons (nameF 11) aNil)))) aNil)))))))))))))))
def F_law : FS := fnF 13 g_law
/-- names of fields that differ -/
theorem ne_over_under : (("over" : Str) == ("under" : Str)) = false := by decide
theorem nq_over_under : (("over" : Str) = ("under" : Str)) = False := eq_false (by decide)
theorem ne_under_over : (("under" : Str) == ("over" : Str)) = false := by decide
theorem nq_under_over : (("under" : Str) = ("over" : Str)) = False := eq_false (by decide)
end LW

set_option Elab.async false
set_option linter.all false
set_option maxRecDepth 100000
set_option maxHeartbeats 4000000
namespace LW
open PySem PySem.Spec PyProof.Rows L2 FL
def topS (i : Nat) : Stmt := PySem.Challenge.pw_fourread_k05_shares.main.body.getD i (.Pass ⟨0, 0, 0, 0⟩)
abbrev NM : List Str := ["ReadError", "InvalidNumber", "Share"]
abbrev GG (K : PySem.W.Frag) : Gx := ⟨K, clOf K NM, none⟩
abbrev s_InvalidNumber___init__ : Stmt := (inClass (topS 3) 0)
abbrev s__law_draws : Stmt := (topS 9)
abbrev s__law_take : Stmt := (topS 10)
abbrev s__law_integer : Stmt := (topS 15)
abbrev s__law_divisor : Stmt := (topS 11)
abbrev s__law_lowest : Stmt := (topS 12)
abbrev s_is_integer : Stmt := (topS 5)
abbrev s_Share___init__ : Stmt := (inClass (topS 7) 0)
abbrev s_Share___repr__ : Stmt := (inClass (topS 7) 7)
abbrev s_Share___eq__ : Stmt := (inClass (topS 7) 5)
abbrev s__law_like : Stmt := (topS 14)
abbrev s__law_is_share : Stmt := (topS 13)
abbrev s_Share___sub__ : Stmt := (inClass (topS 7) 3)
abbrev s__law_sum : Stmt := (topS 16)
abbrev s_Share___add__ : Stmt := (inClass (topS 7) 2)
abbrev s_Share___mul__ : Stmt := (inClass (topS 7) 4)
abbrev s_Share_is_below : Stmt := (inClass (topS 7) 6)
abbrev s__law_pair_right : Stmt := (topS 17)
abbrev s_Share_whole : Stmt := (inClass (topS 7) 1)
abbrev s__law_told : Stmt := (topS 18)
abbrev s__law_whole_told : Stmt := (topS 19)
abbrev s_law : Stmt := (topS 20)
structure Tx (K : PySem.W.Frag) (mg : Str → Option Value) where
  n_abs : mg "abs" = none
  n_int : mg "int" = none
  n_range : mg "range" = none
  n_len : mg "len" = none
  n_isinstance : mg "isinstance" = none
  is : IsK K (clOf K NM) IsL
  n_bool : mg "bool" = none
  c_InvalidNumber : mg "InvalidNumber" = some (.ref (clOf K NM 1))
  ox_InvalidNumber : OexC K (clOf K NM 1)
  xx_InvalidNumber_value : PySem.W.findIn K (.ref (clOf K NM 1)) "value" = some none
  xi_InvalidNumber : MtT K (clOf K NM 1) "__init__" "InvalidNumber.__init__" ["self", "value"] s_InvalidNumber___init__
  g_gcd : mg "gcd" = some (.builtin "math.gcd")
  k_Share : InsK K (clOf K NM 2)
  na_Share_over : NoAttr K (clOf K NM 2) "over"
  na_Share_under : NoAttr K (clOf K NM 2) "under"
  c_Share : mg "Share" = some (.ref (clOf K NM 2))
  n_str : mg "str" = none
  n_repr : mg "repr" = none
  n_list : mg "list" = none
  n_tuple : mg "tuple" = none
  eq_Share : EqK K (clOf K NM) IsL 2
  sf_Share : PySem.W.selfFirst K (clOf K NM 2) = true
  ne_Share : PySem.W.findIn K (.ref (clOf K NM 2)) "__ne__" = some (some (.builtin "object.__ne__"))
  er : ErrK K (clOf K NM) nE
  xn_value : ∀ c, c ≤ nE → PySem.W.findIn K (.ref (clOf K NM c)) "value" = some none
  f__law_draws : FnT K mg "_law_draws" ["_law_script", "_law_many"] s__law_draws
  f__law_take : FnT K mg "_law_take" ["_law_hand", "_law_many"] s__law_take
  f__law_integer : FnT K mg "_law_integer" ["_law_hand"] s__law_integer
  f__law_divisor : FnT K mg "_law_divisor" ["_law_a", "_law_b"] s__law_divisor
  f__law_lowest : FnT K mg "_law_lowest" ["_law_over", "_law_under"] s__law_lowest
  f_is_integer : FnT K mg "is_integer" ["value"] s_is_integer
  f_Share___init__ : MtT K (clOf K NM 2) "__init__" "Share.__init__" ["self", "over", "under"] s_Share___init__
  f_Share___repr__ : MtT K (clOf K NM 2) "__repr__" "Share.__repr__" ["self"] s_Share___repr__
  f_Share___eq__ : MtT K (clOf K NM 2) "__eq__" "Share.__eq__" ["self", "other"] s_Share___eq__
  f__law_like : FnT K mg "_law_like" ["_law_found", "_law_due"] s__law_like
  f__law_is_share : FnT K mg "_law_is_share" ["_law_found", "_law_pair"] s__law_is_share
  f_Share___sub__ : MtT K (clOf K NM 2) "__sub__" "Share.__sub__" ["self", "other"] s_Share___sub__
  f__law_sum : FnT K mg "_law_sum" ["_law_one", "_law_two"] s__law_sum
  f_Share___add__ : MtT K (clOf K NM 2) "__add__" "Share.__add__" ["self", "other"] s_Share___add__
  f_Share___mul__ : MtT K (clOf K NM 2) "__mul__" "Share.__mul__" ["self", "other"] s_Share___mul__
  f_Share_is_below : MtT K (clOf K NM 2) "is_below" "Share.is_below" ["self", "other"] s_Share_is_below
  f__law_pair_right : FnT K mg "_law_pair_right" ["_law_one", "_law_two", "_law_a", "_law_b"] s__law_pair_right
  f_Share_whole : CmT K (clOf K NM 2) "whole" "Share.whole" ["cls", "number"] s_Share_whole
  f__law_told : FnT K mg "_law_told" ["_law_over", "_law_under"] s__law_told
  f__law_whole_told : FnT K mg "_law_whole_told" ["_law_number"] s__law_whole_told
  f_law : FnT K mg "law" ["_law_script"] s_law
  m_Share : Mk K (clOf K NM 2) f_Share___init__.f
section
variable {P : Program} {w : World} {K : PySem.W.Frag} {mg : Str → Option Value} {base : Heap}
theorem scx_InvalidNumber : FnScope ["self", "value"] ["self", "value"] (defScope s_InvalidNumber___init__) := ⟨rfl, rfl, rfl, by decide +kernel, rfl, by decide +kernel, by decide +kernel⟩
theorem okx_InvalidNumber (T : Tx K mg) : FnOk P w K mg base (L2.CX P w) 1 T.xi_InvalidNumber.f T.xi_InvalidNumber.d ["self", "value"] (spX (clOf K NM 1) [("value" : Str)]) :=
  xi_one T.xi_InvalidNumber.F scx_InvalidNumber rfl T.ox_InvalidNumber T.xx_InvalidNumber_value
theorem sc__law_draws : FnScope N__law_draws ["_law_script", "_law_many"] (defScope s__law_draws) := ⟨rfl, rfl, rfl, by decide +kernel, rfl, by decide +kernel, by decide +kernel⟩
theorem ok__law_draws (T : Tx K mg) : FnOk P w K mg base (L2.CX P w) 1 T.f__law_draws.f T.f__law_draws.d ["_law_script", "_law_many"] (spF (GG K) 2 F__law_draws) :=
  fn_ok T.f__law_draws.F sc__law_draws rfl rfl rfl fun cdv A outer s H E C => (sfs_cons (sf_setLc (i := 3) (own := [("_law_cell", 2)]) C rfl rfl (sw_true rfl rfl rfl (by decide +kernel)) (if_seq C.K (ef_name 0 (pv 0))) (blkOk_by (N := N__law_draws) (sc := defScope s__law_draws) (by decide +kernel)) (fun _ _ _ _ _ => (gf_name 2 C.nd rfl (.inl rfl))) (fun _ _ _ _ _ C1 => tf_yes) (fun _ _ _ _ _ C1 => (ef_callB ob_abs (by rfl) T.n_abs (by decide +kernel) (af_cons (ef_callTy ob_int (by rfl) T.n_int PyProof.Rows.boot_int (af_cons (ef_name 2 (pv 2)) af_nil)) af_nil))) (by decide)).2
  (sfs_cons (sf_setC 4 C.nd rfl (.inl rfl) (lf_lst af_nil))
  (sfs_cons (sf_for C.po C.calm (if_rng1 (by rfl) T.n_range (af_cons (ef_name 1 (pv 1)) af_nil) len1) (gf_name 5 C.nd rfl (.inl rfl))
  (sfs_cons (sf_set 2 C.nd rfl (.inl rfl) (ef_name 5 (pv 5)))
  (sfs_cons (sf_if (tf_cmp oi_gt (ef_callB (ob_len C.K) (by rfl) T.n_len PySem.boot_len (af_cons (ef_name 0 (pv 0)) af_nil)) ef_int) (sfs_cons (sf_set 6 C.nd rfl (.inl rfl) (ef_bin oi_mod (ef_name 5 (pv 5)) (ef_callB (ob_len C.K) (by rfl) T.n_len PySem.boot_len (af_cons (ef_name 0 (pv 0)) af_nil))))
  (sfs_cons (sf_set 2 C.nd rfl (.inl rfl) (ef_callTy ob_int (by rfl) T.n_int PyProof.Rows.boot_int (af_cons (ef_ix C.K (ef_name 0 (pv 0)) (ef_name 6 (pv 6)) (fun _ _ => rfl)) af_nil)))
  (sfs_one (sf_if (tf_w (wf_and (tf_cmp oi_ge (ef_name 2 (pv 2)) (ef_bin oi_pow ef_int ef_int)) (wf_and1 (tf_cmp oi_gt (ef_ix C.K (ef_name 3 (pv 3)) (ef_name 6 (pv 6)) (fun _ _ => rfl)) ef_int)))) (sfs_cons (sf_expr (ef_bm C.K PySem.F.plainAttrs_list PySem.F.slot_list_append PySem.F.type_list_append tyF_L om_app (ef_name 4 (pv 4)) (af_cons (ef_bin oi_mod (ef_callTy ob_int (by rfl) T.n_int PyProof.Rows.boot_int (af_cons (ef_ix C.K (ef_name 3 (pv 3)) (ef_name 6 (pv 6)) (fun _ _ => rfl)) af_nil)) ef_int) af_nil)))
  (sfs_cons (sf_seti (ef_bin oi_div (ef_callTy ob_int (by rfl) T.n_int PyProof.Rows.boot_int (af_cons (ef_ix C.K (ef_name 3 (pv 3)) (ef_name 6 (pv 6)) (fun _ _ => rfl)) af_nil)) ef_int) (ef_name 3 (pv 3)) (ef_name 6 (pv 6)))
  (sfs_one sf_continue))) sfs_nil)))) sfs_nil)
  (sfs_cons (sf_set 7 C.nd rfl (.inl rfl) (ef_bin oi_mod (ef_callTy ob_int (by rfl) T.n_int PyProof.Rows.boot_int (af_cons (ef_bin (o_add C.K) (ef_bin (o_add C.K) (ef_bin oi_mul (ef_name 2 (pv 2)) ef_int) (ef_bin oi_mul (ef_name 5 (pv 5)) ef_int)) ef_int) af_nil)) ef_int))
  (sfs_cons (sf_set 7 C.nd rfl (.inl rfl) (ef_bin oi_mod (ef_callTy ob_int (by rfl) T.n_int PyProof.Rows.boot_int (af_cons (ef_bin (o_add C.K) (ef_bin oi_div (ef_bin oi_mul (ef_name 7 (pv 7)) (ef_name 7 (pv 7))) ef_int) (ef_name 7 (pv 7))) af_nil)) ef_int))
  (sfs_one (sf_expr (ef_bm C.K PySem.F.plainAttrs_list PySem.F.slot_list_append PySem.F.type_list_append tyF_L om_app (ef_name 4 (pv 4)) (af_cons (ef_bin oi_mod (ef_callTy ob_int (by rfl) T.n_int PyProof.Rows.boot_int (af_cons (ef_bin (o_add C.K) (ef_bin oi_div (ef_bin oi_mul (ef_name 7 (pv 7)) (ef_name 7 (pv 7))) ef_int) (ef_bin oi_mul (ef_name 5 (pv 5)) ef_int)) af_nil)) ef_int) af_nil)))))))))
  (sfs_one (sf_ret (ef_fz 4 (pv 4)))))))
theorem sc__law_take : FnScope N__law_take ["_law_hand", "_law_many"] (defScope s__law_take) := ⟨rfl, rfl, rfl, by decide +kernel, rfl, by decide +kernel, by decide +kernel⟩
theorem ok__law_take (T : Tx K mg) : FnOk P w K mg base (L2.CX P w) 1 T.f__law_take.f T.f__law_take.d ["_law_hand", "_law_many"] (spF (GG K) 2 F__law_take) :=
  fn_ok T.f__law_take.F sc__law_take rfl rfl rfl fun cdv A outer s H E C => (sfs_cons (sf_set 2 C.nd rfl (.inl rfl) (ef_ix C.K (ef_name 0 (pv 0)) ef_int (fun _ _ => rfl)))
  (sfs_cons (sf_seti (ef_bin (o_add C.K) (ef_name 2 (pv 2)) ef_int) (ef_name 0 (pv 0)) ef_int)
  (sfs_cons (sf_set 3 C.nd rfl (.inl rfl) (ef_ix C.K (ef_name 0 (pv 0)) ef_int (fun _ _ => rfl)))
  (sfs_cons (sf_if (tf_cmp oi_ge (ef_name 2 (pv 2)) (ef_callB (ob_len C.K) (by rfl) T.n_len PySem.boot_len (af_cons (ef_name 3 (pv 3)) af_nil))) (sfs_one (sf_ret ef_int)) sfs_nil)
  (sfs_one (sf_ret (ef_bin oi_mod (ef_bin oi_div (ef_callTy ob_int (by rfl) T.n_int PyProof.Rows.boot_int (af_cons (ef_ix C.K (ef_name 3 (pv 3)) (ef_name 2 (pv 2)) (fun _ _ => rfl)) af_nil)) ef_int) (ef_name 1 (pv 1)))))))))
theorem sc__law_integer : FnScope N__law_integer ["_law_hand"] (defScope s__law_integer) := ⟨rfl, rfl, rfl, by decide +kernel, rfl, by decide +kernel, by decide +kernel⟩
theorem ok__law_integer (T : Tx K mg) : FnOk P w K mg base (L2.CX P w) 2 T.f__law_integer.f T.f__law_integer.d ["_law_hand"] (spF (GG K) 1 F__law_integer) :=
  fn_ok T.f__law_integer.F sc__law_integer rfl rfl rfl fun cdv A outer s H E C => (sfs_cons (sf_set 1 C.nd rfl (.inl rfl) (ef_call C (ok__law_take T) (by decide) (by rfl) T.f__law_take.g T.f__law_take.F.kp T.f__law_take.b (af_cons (ef_name 0 (pv 0)) (af_cons ef_int af_nil))))
  (sfs_cons (sf_if (tf_cmp (o_eq C.K C.hu) (ef_name 1 (pv 1)) ef_int) (sfs_cons (sf_set 2 C.nd rfl (.inl rfl) (ef_bin (o_add C.K) (ef_bin oi_mul (ef_bin (o_add C.K) (ef_bin oi_mul (ef_call C (ok__law_take T) (by decide) (by rfl) T.f__law_take.g T.f__law_take.F.kp T.f__law_take.b (af_cons (ef_name 0 (pv 0)) (af_cons ef_int af_nil))) ef_int) (ef_call C (ok__law_take T) (by decide) (by rfl) T.f__law_take.g T.f__law_take.F.kp T.f__law_take.b (af_cons (ef_name 0 (pv 0)) (af_cons ef_int af_nil)))) ef_int) (ef_call C (ok__law_take T) (by decide) (by rfl) T.f__law_take.g T.f__law_take.F.kp T.f__law_take.b (af_cons (ef_name 0 (pv 0)) (af_cons ef_int af_nil)))))
  (sfs_cons (sf_for C.po C.calm (if_rng1 (by rfl) T.n_range (af_cons (ef_call C (ok__law_take T) (by decide) (by rfl) T.f__law_take.g T.f__law_take.F.kp T.f__law_take.b (af_cons (ef_name 0 (pv 0)) (af_cons ef_int af_nil))) af_nil) len1) (gf_name 3 C.nd rfl (.inl rfl))
  (sfs_one (sf_set 2 C.nd rfl (.inl rfl) (ef_bin (o_add C.K) (ef_bin oi_mul (ef_name 2 (pv 2)) ef_int) (ef_call C (ok__law_take T) (by decide) (by rfl) T.f__law_take.g T.f__law_take.F.kp T.f__law_take.b (af_cons (ef_name 0 (pv 0)) (af_cons ef_int af_nil)))))))
  (sfs_one (sf_ret (ef_bin oi_mul (ef_name 2 (pv 2)) (ef_ix C.K (ef_l (lf_lst (af_cons ef_int (af_cons (ef_un oi_neg ef_int) af_nil)))) (ef_call C (ok__law_take T) (by decide) (by rfl) T.f__law_take.g T.f__law_take.F.kp T.f__law_take.b (af_cons (ef_name 0 (pv 0)) (af_cons ef_int af_nil))) (fun _ _ => rfl))))))) sfs_nil)
  (sfs_one (sf_ret (ef_bin oi_sub (ef_call C (ok__law_take T) (by decide) (by rfl) T.f__law_take.g T.f__law_take.F.kp T.f__law_take.b (af_cons (ef_name 0 (pv 0)) (af_cons ef_int af_nil))) ef_int)))))
theorem sc__law_divisor : FnScope N__law_divisor ["_law_a", "_law_b"] (defScope s__law_divisor) := ⟨rfl, rfl, rfl, by decide +kernel, rfl, by decide +kernel, by decide +kernel⟩
theorem ok__law_divisor (T : Tx K mg) : FnOk P w K mg base (L2.CX P w) 1 T.f__law_divisor.f T.f__law_divisor.d ["_law_a", "_law_b"] (spF (GG K) 2 F__law_divisor) :=
  fn_ok T.f__law_divisor.F sc__law_divisor rfl rfl rfl fun cdv A outer s H E C => (sfs_cons (sf_for C.po C.calm (if_rng1 (by rfl) T.n_range (af_cons ef_int af_nil) len1) (gf_name 2 C.nd rfl (.inl rfl))
  (sfs_cons (sf_if (tf_cmp (o_eq C.K C.hu) (ef_name 1 (pv 1)) ef_int) (sfs_one (sf_ret (ef_name 0 (pv 0)))) sfs_nil)
  (sfs_cons (sf_set 3 C.nd rfl (.inl rfl) (ef_bin oi_mod (ef_callTy ob_int (by rfl) T.n_int PyProof.Rows.boot_int (af_cons (ef_name 0 (pv 0)) af_nil)) (ef_name 1 (pv 1))))
  (sfs_cons (sf_set 0 C.nd rfl (.inl rfl) (ef_name 1 (pv 1)))
  (sfs_one (sf_set 1 C.nd rfl (.inl rfl) (ef_name 3 (pv 3))))))))
  (sfs_one (sf_ret (ef_name 0 (pv 0)))))
theorem sc__law_lowest : FnScope N__law_lowest ["_law_over", "_law_under"] (defScope s__law_lowest) := ⟨rfl, rfl, rfl, by decide +kernel, rfl, by decide +kernel, by decide +kernel⟩
theorem ok__law_lowest : ∀ (n : Nat) (T : Tx K mg), FnOk P w K mg base (L2.CX P w) (2 + n) T.f__law_lowest.f T.f__law_lowest.d ["_law_over", "_law_under"] (spF (GG K) 2 (F__law_lowest n))
  | 0, T => fn_bad
  | n + 1, T => fn_ok (k := 2 + n) T.f__law_lowest.F sc__law_lowest rfl rfl rfl fun cdv A outer s H E C => (sfs_cons (sf_if (tf_cmp oi_lt (ef_name 1 (pv 1)) ef_int) (sfs_one (sf_ret (ef_call C (ok__law_lowest n T) (by omega) (by rfl) T.f__law_lowest.g T.f__law_lowest.F.kp T.f__law_lowest.b (af_cons (ef_un oi_neg (ef_name 0 (pv 0))) (af_cons (ef_un oi_neg (ef_name 1 (pv 1))) af_nil))))) sfs_nil)
  (sfs_cons (sf_set 2 C.nd rfl (.inl rfl) (ef_call C (ok__law_divisor T) (by omega) (by rfl) T.f__law_divisor.g T.f__law_divisor.F.kp T.f__law_divisor.b (af_cons (ef_callB ob_abs (by rfl) T.n_abs (by decide +kernel) (af_cons (ef_name 0 (pv 0)) af_nil)) (af_cons (ef_name 1 (pv 1)) af_nil))))
  (sfs_one (sf_ret (ef_tup (af_cons (ef_bin oi_div (ef_name 0 (pv 0)) (ef_name 2 (pv 2))) (af_cons (ef_bin oi_div (ef_name 1 (pv 1)) (ef_name 2 (pv 2))) af_nil)) C.K)))))
theorem sc_is_integer : FnScope N_is_integer ["value"] (defScope s_is_integer) := ⟨rfl, rfl, rfl, by decide +kernel, rfl, by decide +kernel, by decide +kernel⟩
theorem ok_is_integer (T : Tx K mg) : FnOk P w K mg base (L2.CX P w) 1 T.f_is_integer.f T.f_is_integer.d ["value"] (spF (GG K) 1 F_is_integer) :=
  fn_ok T.f_is_integer.F sc_is_integer rfl rfl rfl fun cdv A outer s H E C => (sfs_one (sf_ret (ef_and (ef_callB (ob_isi C.K T.is) (by rfl) T.n_isinstance (by decide +kernel) (af_cons (ef_name 0 (pv 0)) (af_cons (ef_bty (by rfl) T.n_int (by decide +kernel)) af_nil))) (ef_one (ef_not (ef_callB (ob_isi C.K T.is) (by rfl) T.n_isinstance (by decide +kernel) (af_cons (ef_name 0 (pv 0)) (af_cons (ef_bty (by rfl) T.n_bool (by decide +kernel)) af_nil))))))))
theorem sc_Share___init__ : FnScope N_Share___init__ ["self", "over", "under"] (defScope s_Share___init__) := ⟨rfl, rfl, rfl, by decide +kernel, rfl, by decide +kernel, by decide +kernel⟩
theorem ok_Share___init__ (T : Tx K mg) : FnOk P w K mg base (L2.CX P w) 3 T.f_Share___init__.f T.f_Share___init__.d ["self", "over", "under"] (spF (GG K) 3 F_Share___init__) :=
  fn_ok T.f_Share___init__.F sc_Share___init__ rfl rfl rfl fun cdv A outer s H E C => (sfs_cons (sf_if (tf_not (tf_val (ef_call C (ok_is_integer T) (by decide) (by rfl) T.f_is_integer.g T.f_is_integer.F.kp T.f_is_integer.b (af_cons (ef_name 1 (pv 1)) af_nil)))) (sfs_one (sf_raise (C := 1) C T.ox_InvalidNumber T.xi_InvalidNumber.at_ (beq_iff_eq.mp T.xi_InvalidNumber.fn) (okx_InvalidNumber T) (by decide) T.xi_InvalidNumber.b (by rfl) T.c_InvalidNumber (af_cons (ef_name 1 (pv 1)) af_nil))) sfs_nil)
  (sfs_cons (sf_if (tf_w (wf_or (tf_not (tf_val (ef_call C (ok_is_integer T) (by decide) (by rfl) T.f_is_integer.g T.f_is_integer.F.kp T.f_is_integer.b (af_cons (ef_name 2 (pv 2)) af_nil)))) (wf_or1 (tf_cmp (o_eq C.K C.hu) (ef_name 2 (pv 2)) ef_int)))) (sfs_one (sf_raise (C := 1) C T.ox_InvalidNumber T.xi_InvalidNumber.at_ (beq_iff_eq.mp T.xi_InvalidNumber.fn) (okx_InvalidNumber T) (by decide) T.xi_InvalidNumber.b (by rfl) T.c_InvalidNumber (af_cons (ef_name 2 (pv 2)) af_nil))) sfs_nil)
  (sfs_cons (sf_set 3 C.nd rfl (.inl rfl) (ef_callBf ob_gcd (by rfl) T.g_gcd (af_cons (ef_name 1 (pv 1)) (af_cons (ef_name 2 (pv 2)) af_nil))))
  (sfs_cons (sf_if (tf_cmp oi_lt (ef_name 2 (pv 2)) ef_int) (sfs_one (sf_set 3 C.nd rfl (.inl rfl) (ef_un oi_neg (ef_name 3 (pv 3))))) sfs_nil)
  (sfs_cons (sf_fld (C := 2) C.K T.k_Share.cl T.na_Share_over (ef_name 0 (pv 0)) (ef_bin oi_div (ef_name 1 (pv 1)) (ef_name 3 (pv 3))))
  (sfs_one (sf_fld (C := 2) C.K T.k_Share.cl T.na_Share_under (ef_name 0 (pv 0)) (ef_bin oi_div (ef_name 2 (pv 2)) (ef_name 3 (pv 3))))))))))
theorem sc_Share___repr__ : FnScope N_Share___repr__ ["self"] (defScope s_Share___repr__) := ⟨rfl, rfl, rfl, by decide +kernel, rfl, by decide +kernel, by decide +kernel⟩
theorem ok_Share___repr__ (T : Tx K mg) : FnOk P w K mg base (L2.CX P w) 1 T.f_Share___repr__.f T.f_Share___repr__.d ["self"] (spF (GG K) 1 F_Share___repr__) :=
  fn_ok T.f_Share___repr__.F sc_Share___repr__ rfl rfl rfl fun cdv A outer s H E C => (sfs_one (sf_ret (ef_joined (.cons ef_str (.cons (ef_fmt (ef_fld (Cs := [2]) C.K (fun C h => by simp at h; subst h; exact ⟨T.k_Share.cl, T.na_Share_over⟩) (ef_name 0 (pv 0)))) (.cons ef_str (.cons (ef_fmt (ef_fld (Cs := [2]) C.K (fun C h => by simp at h; subst h; exact ⟨T.k_Share.cl, T.na_Share_under⟩) (ef_name 0 (pv 0)))) (.cons ef_str .nil))))))))
theorem sc_Share___eq__ : FnScope N_Share___eq__ ["self", "other"] (defScope s_Share___eq__) := ⟨rfl, rfl, rfl, by decide +kernel, rfl, by decide +kernel, by decide +kernel⟩
theorem ok_Share___eq__ (T : Tx K mg) : FnOk P w K mg base (L2.CX P w) 1 T.f_Share___eq__.f T.f_Share___eq__.d ["self", "other"] (spF (GG K) 2 F_Share___eq__) :=
  fn_ok T.f_Share___eq__.F sc_Share___eq__ rfl rfl rfl fun cdv A outer s H E C => (sfs_one (sf_ret (ef_and (ef_callB (ob_isi C.K T.is) (by rfl) T.n_isinstance (by decide +kernel) (af_cons (ef_name 1 (pv 1)) (af_cons (ef_gcl (C := 2) (by rfl) T.c_Share) af_nil))) (ef_and (ef_cmp (o_eq C.K C.hu) (ef_fld (Cs := [2]) C.K (fun C h => by simp at h; subst h; exact ⟨T.k_Share.cl, T.na_Share_over⟩) (ef_name 0 (pv 0))) (ef_fld (Cs := [2]) C.K (fun C h => by simp at h; subst h; exact ⟨T.k_Share.cl, T.na_Share_over⟩) (ef_name 1 (pv 1)))) (ef_one (ef_cmp (o_eq C.K C.hu) (ef_fld (Cs := [2]) C.K (fun C h => by simp at h; subst h; exact ⟨T.k_Share.cl, T.na_Share_under⟩) (ef_name 0 (pv 0))) (ef_fld (Cs := [2]) C.K (fun C h => by simp at h; subst h; exact ⟨T.k_Share.cl, T.na_Share_under⟩) (ef_name 1 (pv 1)))))))))
theorem sc__law_like : FnScope N__law_like ["_law_found", "_law_due"] (defScope s__law_like) := ⟨rfl, rfl, rfl, by decide +kernel, rfl, by decide +kernel, by decide +kernel⟩
theorem ok__law_like : ∀ (n : Nat) (T : Tx K mg), FnOk P w K mg base (L2.CX P w) (2 + n) T.f__law_like.f T.f__law_like.d ["_law_found", "_law_due"] (spF (GG K) 2 (F__law_like n))
  | 0, T => fn_bad
  | n + 1, T => fn_ok (k := 2 + n) T.f__law_like.F sc__law_like rfl rfl rfl fun cdv A outer s H E C => (sfs_cons (sf_if (tf_w (wf_or (tf_val (ef_callB (ob_isi C.K T.is) (by rfl) T.n_isinstance (by decide +kernel) (af_cons (ef_name 1 (pv 1)) (af_cons (ef_bty (by rfl) T.n_tuple (by decide +kernel)) af_nil)))) (wf_or1 (tf_val (ef_callB (ob_isi C.K T.is) (by rfl) T.n_isinstance (by decide +kernel) (af_cons (ef_name 1 (pv 1)) (af_cons (ef_bty (by rfl) T.n_list (by decide +kernel)) af_nil))))))) (sfs_cons (sf_if (tf_w (wf_or (tf_cmp (o_ne C.K C.hu) (ef_callB (ob_isi C.K T.is) (by rfl) T.n_isinstance (by decide +kernel) (af_cons (ef_name 0 (pv 0)) (af_cons (ef_bty (by rfl) T.n_tuple (by decide +kernel)) af_nil))) (ef_callB (ob_isi C.K T.is) (by rfl) T.n_isinstance (by decide +kernel) (af_cons (ef_name 1 (pv 1)) (af_cons (ef_bty (by rfl) T.n_tuple (by decide +kernel)) af_nil)))) (wf_or1 (tf_cmp (o_ne C.K C.hu) (ef_callB (ob_isi C.K T.is) (by rfl) T.n_isinstance (by decide +kernel) (af_cons (ef_name 0 (pv 0)) (af_cons (ef_bty (by rfl) T.n_list (by decide +kernel)) af_nil))) (ef_callB (ob_isi C.K T.is) (by rfl) T.n_isinstance (by decide +kernel) (af_cons (ef_name 1 (pv 1)) (af_cons (ef_bty (by rfl) T.n_list (by decide +kernel)) af_nil))))))) (sfs_one (sf_ret ef_bl)) sfs_nil)
  (sfs_cons (sf_if (tf_cmp (o_ne C.K C.hu) (ef_callB (ob_len C.K) (by rfl) T.n_len PySem.boot_len (af_cons (ef_name 0 (pv 0)) af_nil)) (ef_callB (ob_len C.K) (by rfl) T.n_len PySem.boot_len (af_cons (ef_name 1 (pv 1)) af_nil))) (sfs_one (sf_ret ef_bl)) sfs_nil)
  (sfs_cons (sf_for C.po C.calm (if_rng1 (by rfl) T.n_range (af_cons (ef_callB (ob_len C.K) (by rfl) T.n_len PySem.boot_len (af_cons (ef_name 1 (pv 1)) af_nil)) af_nil) len1) (gf_name 2 C.nd rfl (.inl rfl))
  (sfs_one (sf_if (tf_not (tf_val (ef_call C (ok__law_like n T) (by omega) (by rfl) T.f__law_like.g T.f__law_like.F.kp T.f__law_like.b (af_cons (ef_ix C.K (ef_name 0 (pv 0)) (ef_name 2 (pv 2)) (fun _ _ => rfl)) (af_cons (ef_ix C.K (ef_name 1 (pv 1)) (ef_name 2 (pv 2)) (fun _ _ => rfl)) af_nil))))) (sfs_one (sf_ret ef_bl)) sfs_nil)))
  (sfs_one (sf_ret ef_bl))))) sfs_nil)
  (sfs_cons (sf_if (tf_cmp o_isN (ef_name 1 (pv 1)) ef_non) (sfs_one (sf_ret (ef_cmp o_isN (ef_name 0 (pv 0)) ef_non))) sfs_nil)
  (sfs_cons (sf_if (tf_w (wf_or (tf_val (ef_callB (ob_isi C.K T.is) (by rfl) T.n_isinstance (by decide +kernel) (af_cons (ef_name 1 (pv 1)) (af_cons (ef_bty (by rfl) T.n_bool (by decide +kernel)) af_nil)))) (wf_or1 (tf_val (ef_callB (ob_isi C.K T.is) (by rfl) T.n_isinstance (by decide +kernel) (af_cons (ef_name 0 (pv 0)) (af_cons (ef_bty (by rfl) T.n_bool (by decide +kernel)) af_nil))))))) (sfs_one (sf_ret (ef_and (ef_callB (ob_isi C.K T.is) (by rfl) T.n_isinstance (by decide +kernel) (af_cons (ef_name 1 (pv 1)) (af_cons (ef_bty (by rfl) T.n_bool (by decide +kernel)) af_nil))) (ef_and (ef_callB (ob_isi C.K T.is) (by rfl) T.n_isinstance (by decide +kernel) (af_cons (ef_name 0 (pv 0)) (af_cons (ef_bty (by rfl) T.n_bool (by decide +kernel)) af_nil))) (ef_one (ef_cmp (o_eq C.K C.hu) (ef_name 0 (pv 0)) (ef_name 1 (pv 1)))))))) sfs_nil)
  (sfs_cons (sf_if (tf_val (ef_callB (ob_isi C.K T.is) (by rfl) T.n_isinstance (by decide +kernel) (af_cons (ef_name 1 (pv 1)) (af_cons (ef_bty (by rfl) T.n_str (by decide +kernel)) af_nil)))) (sfs_one (sf_ret (ef_and (ef_callB (ob_isi C.K T.is) (by rfl) T.n_isinstance (by decide +kernel) (af_cons (ef_name 0 (pv 0)) (af_cons (ef_bty (by rfl) T.n_str (by decide +kernel)) af_nil))) (ef_one (ef_cmp (o_eq C.K C.hu) (ef_name 0 (pv 0)) (ef_name 1 (pv 1))))))) sfs_nil)
  (sfs_cons (sf_if (tf_val (ef_callB (ob_isi C.K T.is) (by rfl) T.n_isinstance (by decide +kernel) (af_cons (ef_name 1 (pv 1)) (af_cons (ef_bty (by rfl) T.n_int (by decide +kernel)) af_nil)))) (sfs_one (sf_ret (ef_and (ef_callB (ob_isi C.K T.is) (by rfl) T.n_isinstance (by decide +kernel) (af_cons (ef_name 0 (pv 0)) (af_cons (ef_bty (by rfl) T.n_int (by decide +kernel)) af_nil))) (ef_one (ef_cmp (o_eq C.K C.hu) (ef_name 0 (pv 0)) (ef_name 1 (pv 1))))))) sfs_nil)
  (sfs_one (sf_ret (ef_cmpS (os_eqX (C := 2) C ⟨⟨T.f_Share___eq__.f, T.f_Share___eq__.d, _, _, T.f_Share___eq__.at_, T.f_Share___eq__.fn, ok_Share___eq__ T, (by omega), T.f_Share___eq__.b⟩⟩ T.is T.eq_Share) (ef_name 0 (pv 0)) (ef_name 1 (pv 1))))))))))
theorem sc__law_is_share : FnScope N__law_is_share ["_law_found", "_law_pair"] (defScope s__law_is_share) := ⟨rfl, rfl, rfl, by decide +kernel, rfl, by decide +kernel, by decide +kernel⟩
theorem ok__law_is_share (T : Tx K mg) : FnOk P w K mg base (L2.CX P w) 1 T.f__law_is_share.f T.f__law_is_share.d ["_law_found", "_law_pair"] (spF (GG K) 2 F__law_is_share) :=
  fn_ok T.f__law_is_share.F sc__law_is_share rfl rfl rfl fun cdv A outer s H E C => (sfs_cons (sf_if (tf_not (tf_val (ef_callB (ob_isi C.K T.is) (by rfl) T.n_isinstance (by decide +kernel) (af_cons (ef_name 0 (pv 0)) (af_cons (ef_gcl (C := 2) (by rfl) T.c_Share) af_nil))))) (sfs_one (sf_ret ef_bl)) sfs_nil)
  (sfs_cons (sf_for C.po C.calm (if_seq C.K (ef_l (lf_lst (af_cons (ef_fld (Cs := [2]) C.K (fun C h => by simp at h; subst h; exact ⟨T.k_Share.cl, T.na_Share_over⟩) (ef_name 0 (pv 0))) (af_cons (ef_fld (Cs := [2]) C.K (fun C h => by simp at h; subst h; exact ⟨T.k_Share.cl, T.na_Share_under⟩) (ef_name 0 (pv 0))) af_nil))))) (gf_name 2 C.nd rfl (.inl rfl))
  (sfs_one (sf_if (tf_w (wf_or (tf_not (tf_val (ef_callB (ob_isi C.K T.is) (by rfl) T.n_isinstance (by decide +kernel) (af_cons (ef_name 2 (pv 2)) (af_cons (ef_bty (by rfl) T.n_int (by decide +kernel)) af_nil))))) (wf_or1 (tf_val (ef_callB (ob_isi C.K T.is) (by rfl) T.n_isinstance (by decide +kernel) (af_cons (ef_name 2 (pv 2)) (af_cons (ef_bty (by rfl) T.n_bool (by decide +kernel)) af_nil))))))) (sfs_one (sf_ret ef_bl)) sfs_nil)))
  (sfs_one (sf_ret (ef_cmp (o_eq C.K C.hu) (ef_tup (af_cons (ef_fld (Cs := [2]) C.K (fun C h => by simp at h; subst h; exact ⟨T.k_Share.cl, T.na_Share_over⟩) (ef_name 0 (pv 0))) (af_cons (ef_fld (Cs := [2]) C.K (fun C h => by simp at h; subst h; exact ⟨T.k_Share.cl, T.na_Share_under⟩) (ef_name 0 (pv 0))) af_nil)) C.K) (ef_name 1 (pv 1)))))))
theorem sc_Share___sub__ : FnScope N_Share___sub__ ["self", "other"] (defScope s_Share___sub__) := ⟨rfl, rfl, rfl, by decide +kernel, rfl, by decide +kernel, by decide +kernel⟩
theorem ok_Share___sub__ (T : Tx K mg) : FnOk P w K mg base (L2.CX P w) 5 T.f_Share___sub__.f T.f_Share___sub__.d ["self", "other"] (spF (GG K) 2 F_Share___sub__) :=
  fn_ok T.f_Share___sub__.F sc_Share___sub__ rfl rfl rfl fun cdv A outer s H E C => (sfs_one (sf_ret (ef_make (C := 2) C T.m_Share (ok_Share___init__ T) (by decide) (by rfl) T.c_Share T.f_Share___init__.b (af_cons (ef_bin oi_sub (ef_bin oi_mul (ef_fld (Cs := [2]) C.K (fun C h => by simp at h; subst h; exact ⟨T.k_Share.cl, T.na_Share_over⟩) (ef_name 0 (pv 0))) (ef_fld (Cs := [2]) C.K (fun C h => by simp at h; subst h; exact ⟨T.k_Share.cl, T.na_Share_under⟩) (ef_name 1 (pv 1)))) (ef_bin oi_mul (ef_fld (Cs := [2]) C.K (fun C h => by simp at h; subst h; exact ⟨T.k_Share.cl, T.na_Share_over⟩) (ef_name 1 (pv 1))) (ef_fld (Cs := [2]) C.K (fun C h => by simp at h; subst h; exact ⟨T.k_Share.cl, T.na_Share_under⟩) (ef_name 0 (pv 0))))) (af_cons (ef_bin oi_mul (ef_fld (Cs := [2]) C.K (fun C h => by simp at h; subst h; exact ⟨T.k_Share.cl, T.na_Share_under⟩) (ef_name 0 (pv 0))) (ef_fld (Cs := [2]) C.K (fun C h => by simp at h; subst h; exact ⟨T.k_Share.cl, T.na_Share_under⟩) (ef_name 1 (pv 1)))) af_nil)))))
theorem sc__law_sum : FnScope N__law_sum ["_law_one", "_law_two"] (defScope s__law_sum) := ⟨rfl, rfl, rfl, by decide +kernel, rfl, by decide +kernel, by decide +kernel⟩
theorem ok__law_sum (T : Tx K mg) : FnOk P w K mg base (L2.CX P w) 5 T.f__law_sum.f T.f__law_sum.d ["_law_one", "_law_two"] (spF (GG K) 2 F__law_sum) :=
  fn_ok T.f__law_sum.F sc__law_sum rfl rfl rfl fun cdv A outer s H E C => (sfs_one (sf_ret (ef_call C (ok__law_lowest 2 T) (by decide) (by rfl) T.f__law_lowest.g T.f__law_lowest.F.kp T.f__law_lowest.b (af_cons (ef_bin (o_add C.K) (ef_bin oi_mul (ef_ix C.K (ef_name 0 (pv 0)) ef_int (fun _ _ => rfl)) (ef_ix C.K (ef_name 1 (pv 1)) ef_int (fun _ _ => rfl))) (ef_bin oi_mul (ef_ix C.K (ef_name 1 (pv 1)) ef_int (fun _ _ => rfl)) (ef_ix C.K (ef_name 0 (pv 0)) ef_int (fun _ _ => rfl)))) (af_cons (ef_bin oi_mul (ef_ix C.K (ef_name 0 (pv 0)) ef_int (fun _ _ => rfl)) (ef_ix C.K (ef_name 1 (pv 1)) ef_int (fun _ _ => rfl))) af_nil)))))
theorem sc_Share___add__ : FnScope N_Share___add__ ["self", "other"] (defScope s_Share___add__) := ⟨rfl, rfl, rfl, by decide +kernel, rfl, by decide +kernel, by decide +kernel⟩
theorem ok_Share___add__ (T : Tx K mg) : FnOk P w K mg base (L2.CX P w) 5 T.f_Share___add__.f T.f_Share___add__.d ["self", "other"] (spF (GG K) 2 F_Share___add__) :=
  fn_ok T.f_Share___add__.F sc_Share___add__ rfl rfl rfl fun cdv A outer s H E C => (sfs_one (sf_ret (ef_make (C := 2) C T.m_Share (ok_Share___init__ T) (by decide) (by rfl) T.c_Share T.f_Share___init__.b (af_cons (ef_bin (o_add C.K) (ef_bin oi_mul (ef_fld (Cs := [2]) C.K (fun C h => by simp at h; subst h; exact ⟨T.k_Share.cl, T.na_Share_over⟩) (ef_name 0 (pv 0))) (ef_fld (Cs := [2]) C.K (fun C h => by simp at h; subst h; exact ⟨T.k_Share.cl, T.na_Share_under⟩) (ef_name 1 (pv 1)))) (ef_bin oi_mul (ef_fld (Cs := [2]) C.K (fun C h => by simp at h; subst h; exact ⟨T.k_Share.cl, T.na_Share_over⟩) (ef_name 1 (pv 1))) (ef_fld (Cs := [2]) C.K (fun C h => by simp at h; subst h; exact ⟨T.k_Share.cl, T.na_Share_under⟩) (ef_name 0 (pv 0))))) (af_cons (ef_bin oi_mul (ef_fld (Cs := [2]) C.K (fun C h => by simp at h; subst h; exact ⟨T.k_Share.cl, T.na_Share_under⟩) (ef_name 0 (pv 0))) (ef_fld (Cs := [2]) C.K (fun C h => by simp at h; subst h; exact ⟨T.k_Share.cl, T.na_Share_under⟩) (ef_name 1 (pv 1)))) af_nil)))))
theorem sc_Share___mul__ : FnScope N_Share___mul__ ["self", "other"] (defScope s_Share___mul__) := ⟨rfl, rfl, rfl, by decide +kernel, rfl, by decide +kernel, by decide +kernel⟩
theorem ok_Share___mul__ (T : Tx K mg) : FnOk P w K mg base (L2.CX P w) 5 T.f_Share___mul__.f T.f_Share___mul__.d ["self", "other"] (spF (GG K) 2 F_Share___mul__) :=
  fn_ok T.f_Share___mul__.F sc_Share___mul__ rfl rfl rfl fun cdv A outer s H E C => (sfs_one (sf_ret (ef_make (C := 2) C T.m_Share (ok_Share___init__ T) (by decide) (by rfl) T.c_Share T.f_Share___init__.b (af_cons (ef_bin oi_mul (ef_fld (Cs := [2]) C.K (fun C h => by simp at h; subst h; exact ⟨T.k_Share.cl, T.na_Share_over⟩) (ef_name 0 (pv 0))) (ef_fld (Cs := [2]) C.K (fun C h => by simp at h; subst h; exact ⟨T.k_Share.cl, T.na_Share_over⟩) (ef_name 1 (pv 1)))) (af_cons (ef_bin oi_mul (ef_fld (Cs := [2]) C.K (fun C h => by simp at h; subst h; exact ⟨T.k_Share.cl, T.na_Share_under⟩) (ef_name 0 (pv 0))) (ef_fld (Cs := [2]) C.K (fun C h => by simp at h; subst h; exact ⟨T.k_Share.cl, T.na_Share_under⟩) (ef_name 1 (pv 1)))) af_nil)))))
theorem sc_Share_is_below : FnScope N_Share_is_below ["self", "other"] (defScope s_Share_is_below) := ⟨rfl, rfl, rfl, by decide +kernel, rfl, by decide +kernel, by decide +kernel⟩
theorem ok_Share_is_below (T : Tx K mg) : FnOk P w K mg base (L2.CX P w) 1 T.f_Share_is_below.f T.f_Share_is_below.d ["self", "other"] (spF (GG K) 2 F_Share_is_below) :=
  fn_ok T.f_Share_is_below.F sc_Share_is_below rfl rfl rfl fun cdv A outer s H E C => (sfs_one (sf_ret (ef_cmp oi_lt (ef_bin oi_mul (ef_fld (Cs := [2]) C.K (fun C h => by simp at h; subst h; exact ⟨T.k_Share.cl, T.na_Share_over⟩) (ef_name 0 (pv 0))) (ef_fld (Cs := [2]) C.K (fun C h => by simp at h; subst h; exact ⟨T.k_Share.cl, T.na_Share_under⟩) (ef_name 1 (pv 1)))) (ef_bin oi_mul (ef_fld (Cs := [2]) C.K (fun C h => by simp at h; subst h; exact ⟨T.k_Share.cl, T.na_Share_over⟩) (ef_name 1 (pv 1))) (ef_fld (Cs := [2]) C.K (fun C h => by simp at h; subst h; exact ⟨T.k_Share.cl, T.na_Share_under⟩) (ef_name 0 (pv 0)))))))
theorem sc__law_pair_right : FnScope N__law_pair_right ["_law_one", "_law_two", "_law_a", "_law_b"] (defScope s__law_pair_right) := ⟨rfl, rfl, rfl, by decide +kernel, rfl, by decide +kernel, by decide +kernel⟩
theorem ok__law_pair_right (T : Tx K mg) : FnOk P w K mg base (L2.CX P w) 7 T.f__law_pair_right.f T.f__law_pair_right.d ["_law_one", "_law_two", "_law_a", "_law_b"] (spF (GG K) 4 F__law_pair_right) :=
  fn_ok T.f__law_pair_right.F sc__law_pair_right rfl rfl rfl fun cdv A outer s H E C => (sfs_cons (sf_if (tf_w (wf_or (tf_not (tf_val (ef_call C (ok__law_is_share T) (by decide) (by rfl) T.f__law_is_share.g T.f__law_is_share.F.kp T.f__law_is_share.b (af_cons (ef_binS (os_own (C := 2) C ⟨⟨T.f_Share___add__.f, T.f_Share___add__.d, _, _, T.f_Share___add__.at_, T.f_Share___add__.fn, ok_Share___add__ T, (by decide), T.f_Share___add__.b⟩⟩ T.sf_Share) (ef_name 2 (pv 2)) (ef_name 3 (pv 3))) (af_cons (ef_call C (ok__law_sum T) (by decide) (by rfl) T.f__law_sum.g T.f__law_sum.F.kp T.f__law_sum.b (af_cons (ef_name 0 (pv 0)) (af_cons (ef_name 1 (pv 1)) af_nil))) af_nil))))) (wf_or1 (tf_not (tf_val (ef_call C (ok__law_is_share T) (by decide) (by rfl) T.f__law_is_share.g T.f__law_is_share.F.kp T.f__law_is_share.b (af_cons (ef_binS (os_own (C := 2) C ⟨⟨T.f_Share___sub__.f, T.f_Share___sub__.d, _, _, T.f_Share___sub__.at_, T.f_Share___sub__.fn, ok_Share___sub__ T, (by decide), T.f_Share___sub__.b⟩⟩ T.sf_Share) (ef_name 2 (pv 2)) (ef_name 3 (pv 3))) (af_cons (ef_call C (ok__law_sum T) (by decide) (by rfl) T.f__law_sum.g T.f__law_sum.F.kp T.f__law_sum.b (af_cons (ef_name 0 (pv 0)) (af_cons (ef_tup (af_cons (ef_un oi_neg (ef_ix C.K (ef_name 1 (pv 1)) ef_int (fun _ _ => rfl))) (af_cons (ef_ix C.K (ef_name 1 (pv 1)) ef_int (fun _ _ => rfl)) af_nil)) C.K) af_nil))) af_nil)))))))) (sfs_one (sf_ret ef_bl)) sfs_nil)
  (sfs_cons (sf_if (tf_not (tf_val (ef_call C (ok__law_is_share T) (by decide) (by rfl) T.f__law_is_share.g T.f__law_is_share.F.kp T.f__law_is_share.b (af_cons (ef_binS (os_own (C := 2) C ⟨⟨T.f_Share___mul__.f, T.f_Share___mul__.d, _, _, T.f_Share___mul__.at_, T.f_Share___mul__.fn, ok_Share___mul__ T, (by decide), T.f_Share___mul__.b⟩⟩ T.sf_Share) (ef_name 2 (pv 2)) (ef_name 3 (pv 3))) (af_cons (ef_call C (ok__law_lowest 2 T) (by decide) (by rfl) T.f__law_lowest.g T.f__law_lowest.F.kp T.f__law_lowest.b (af_cons (ef_bin oi_mul (ef_ix C.K (ef_name 0 (pv 0)) ef_int (fun _ _ => rfl)) (ef_ix C.K (ef_name 1 (pv 1)) ef_int (fun _ _ => rfl))) (af_cons (ef_bin oi_mul (ef_ix C.K (ef_name 0 (pv 0)) ef_int (fun _ _ => rfl)) (ef_ix C.K (ef_name 1 (pv 1)) ef_int (fun _ _ => rfl))) af_nil))) af_nil))))) (sfs_one (sf_ret ef_bl)) sfs_nil)
  (sfs_cons (sf_set 4 C.nd rfl (.inl rfl) (ef_l (lf_lst (af_cons (ef_cmpS (os_eqX (C := 2) C ⟨⟨T.f_Share___eq__.f, T.f_Share___eq__.d, _, _, T.f_Share___eq__.at_, T.f_Share___eq__.fn, ok_Share___eq__ T, (by decide), T.f_Share___eq__.b⟩⟩ T.is T.eq_Share) (ef_name 2 (pv 2)) (ef_name 3 (pv 3))) (af_cons (ef_cmpS (os_neX (C := 2) C ⟨⟨T.f_Share___eq__.f, T.f_Share___eq__.d, _, _, T.f_Share___eq__.at_, T.f_Share___eq__.fn, ok_Share___eq__ T, (by decide), T.f_Share___eq__.b⟩⟩ (by decide) T.ne_Share T.k_Share.hm T.is T.eq_Share) (ef_name 2 (pv 2)) (ef_name 3 (pv 3))) (af_cons (ef_meth C (lk_one (⟨⟨T.f_Share_is_below.f, T.f_Share_is_below.d, _, _, T.k_Share.cl, T.f_Share_is_below.meth, ok_Share_is_below T, (by decide), T.f_Share_is_below.b⟩⟩)) (ef_name 2 (pv 2)) (af_cons (ef_name 3 (pv 3)) af_nil)) af_nil))))))
  (sfs_cons (sf_set 5 C.nd rfl (.inl rfl) (ef_l (lf_lst (af_cons (ef_cmp (o_eq C.K C.hu) (ef_name 0 (pv 0)) (ef_name 1 (pv 1))) (af_cons (ef_cmp (o_ne C.K C.hu) (ef_name 0 (pv 0)) (ef_name 1 (pv 1))) (af_cons (ef_cmp oi_lt (ef_bin oi_mul (ef_ix C.K (ef_name 0 (pv 0)) ef_int (fun _ _ => rfl)) (ef_ix C.K (ef_name 1 (pv 1)) ef_int (fun _ _ => rfl))) (ef_bin oi_mul (ef_ix C.K (ef_name 1 (pv 1)) ef_int (fun _ _ => rfl)) (ef_ix C.K (ef_name 0 (pv 0)) ef_int (fun _ _ => rfl)))) af_nil))))))
  (sfs_one (sf_ret (ef_call C (ok__law_like 4 T) (by decide) (by rfl) T.f__law_like.g T.f__law_like.F.kp T.f__law_like.b (af_cons (ef_name 4 (pv 4)) (af_cons (ef_name 5 (pv 5)) af_nil)))))))))
theorem sc_Share_whole : FnScope N_Share_whole ["cls", "number"] (defScope s_Share_whole) := ⟨rfl, rfl, rfl, by decide +kernel, rfl, by decide +kernel, by decide +kernel⟩
theorem ok_Share_whole (T : Tx K mg) : FnOk P w K mg base (L2.CX P w) 5 T.f_Share_whole.f T.f_Share_whole.d ["cls", "number"] (spF (GG K) 2 F_Share_whole) :=
  fn_ok T.f_Share_whole.F sc_Share_whole rfl rfl rfl fun cdv A outer s H E C => (sfs_cons (sf_if (tf_not (tf_val (ef_call C (ok_is_integer T) (by decide) (by rfl) T.f_is_integer.g T.f_is_integer.F.kp T.f_is_integer.b (af_cons (ef_name 1 (pv 1)) af_nil)))) (sfs_one (sf_raise (C := 1) C T.ox_InvalidNumber T.xi_InvalidNumber.at_ (beq_iff_eq.mp T.xi_InvalidNumber.fn) (okx_InvalidNumber T) (by decide) T.xi_InvalidNumber.b (by rfl) T.c_InvalidNumber (af_cons (ef_name 1 (pv 1)) af_nil))) sfs_nil)
  (sfs_one (sf_ret (ef_makeL (C := 2) (i := 0) C T.m_Share (ok_Share___init__ T) (by decide) (pv 0) T.f_Share___init__.b (af_cons (ef_name 1 (pv 1)) (af_cons ef_int af_nil))))))
theorem sc__law_told : FnScope N__law_told ["_law_over", "_law_under"] (defScope s__law_told) := ⟨rfl, rfl, rfl, by decide +kernel, rfl, by decide +kernel, by decide +kernel⟩
theorem ok__law_told (T : Tx K mg) : FnOk P w K mg base (L2.CX P w) 5 T.f__law_told.f T.f__law_told.d ["_law_over", "_law_under"] (spF (GG K) 2 F__law_told) :=
  fn_ok T.f__law_told.F sc__law_told rfl rfl rfl fun cdv A outer s H E C => (sfs_cons (sf_try C rfl (T.er.f) rfl rfl (fun W pn xe C1 => (sfs_one (sf_expr (ef_make (C := 2) C1 T.m_Share (ok_Share___init__ T) (by decide) (by rfl) T.c_Share T.f_Share___init__.b (af_cons (ef_name 0 (pv 0)) (af_cons (ef_name 1 (pv 1)) af_nil)))))) (.cons (.intro (by rfl) (.intro (by decide) (.inl T.c_InvalidNumber))) rfl rfl (fun a oe d x pn hx hz hf Cs => (sfs_one (sf_ret (ef_l (lf_lst (af_cons ef_str (af_cons (ef_xf (T.er.xf _ (subL_le hx)) (T.xn_value _ (subL_le hx)) hz hf (pv 2)) af_nil))))))) .nil))
  (sfs_one (sf_ret (ef_l (lf_lst (af_cons ef_str (af_cons ef_int af_nil)))))))
theorem sc__law_whole_told : FnScope N__law_whole_told ["_law_number"] (defScope s__law_whole_told) := ⟨rfl, rfl, rfl, by decide +kernel, rfl, by decide +kernel, by decide +kernel⟩
theorem ok__law_whole_told (T : Tx K mg) : FnOk P w K mg base (L2.CX P w) 6 T.f__law_whole_told.f T.f__law_whole_told.d ["_law_number"] (spF (GG K) 1 F__law_whole_told) :=
  fn_ok T.f__law_whole_told.F sc__law_whole_told rfl rfl rfl fun cdv A outer s H E C => (sfs_cons (sf_try C rfl (T.er.f) rfl rfl (fun W pn xe C1 => (sfs_one (sf_expr (ef_cmeth (C := 2) C1 (ef_gcl (C := 2) (by rfl) T.c_Share) T.f_Share_whole.r T.f_Share_whole.c (ok_Share_whole T) (by decide) T.f_Share_whole.b (af_cons (ef_name 0 (pv 0)) af_nil))))) (.cons (.intro (by rfl) (.intro (by decide) (.inl T.c_InvalidNumber))) rfl rfl (fun a oe d x pn hx hz hf Cs => (sfs_one (sf_ret (ef_l (lf_lst (af_cons ef_str (af_cons (ef_xf (T.er.xf _ (subL_le hx)) (T.xn_value _ (subL_le hx)) hz hf (pv 1)) af_nil))))))) .nil))
  (sfs_one (sf_ret (ef_l (lf_lst (af_cons ef_str (af_cons ef_int af_nil)))))))
theorem sc_law : FnScope N_law ["_law_script"] (defScope s_law) := ⟨rfl, rfl, rfl, by decide +kernel, rfl, by decide +kernel, by decide +kernel⟩
theorem ok_law (T : Tx K mg) : FnOk P w K mg base (L2.CX P w) 8 T.f_law.f T.f_law.d ["_law_script"] (spF (GG K) 1 F_law) :=
  fn_ok T.f_law.F sc_law rfl rfl rfl fun cdv A outer s H E C => (sfs_cons (sf_setC 1 C.nd rfl (.inl rfl) (lf_lst (af_cons (ef_call C (ok__law_draws T) (by decide) (by rfl) T.f__law_draws.g T.f__law_draws.F.kp T.f__law_draws.b (af_cons (ef_name 0 (pv 0)) (af_cons ef_int af_nil))) (af_cons ef_int af_nil))))
  (sfs_cons (sf_setC 2 C.nd rfl (.inl rfl) (lf_lst af_nil))
  (sfs_cons (sf_setC 3 C.nd rfl (.inl rfl) (lf_lst af_nil))
  (sfs_cons (sf_for C.po C.calm (if_rng1 (by rfl) T.n_range (af_cons ef_int af_nil) len1) (gf_name 4 C.nd rfl (.inl rfl))
  (sfs_cons (sf_set 5 C.nd rfl (.inl rfl) (ef_call C (ok__law_integer T) (by decide) (by rfl) T.f__law_integer.g T.f__law_integer.F.kp T.f__law_integer.b (af_cons (ef_name 1 (pv 1)) af_nil)))
  (sfs_cons (sf_set 6 C.nd rfl (.inl rfl) (ef_call C (ok__law_integer T) (by decide) (by rfl) T.f__law_integer.g T.f__law_integer.F.kp T.f__law_integer.b (af_cons (ef_name 1 (pv 1)) af_nil)))
  (sfs_cons (sf_if (tf_cmp (o_eq C.K C.hu) (ef_name 6 (pv 6)) ef_int) (sfs_one (sf_set 6 C.nd rfl (.inl rfl) (ef_bin oi_sub ef_int (ef_bin oi_mul ef_int (ef_call C (ok__law_take T) (by decide) (by rfl) T.f__law_take.g T.f__law_take.F.kp T.f__law_take.b (af_cons (ef_name 1 (pv 1)) (af_cons ef_int af_nil))))))) sfs_nil)
  (sfs_cons (sf_expr (ef_bm C.K PySem.F.plainAttrs_list PySem.F.slot_list_append PySem.F.type_list_append tyF_L om_app (ef_name 2 (pv 2)) (af_cons (ef_call C (ok__law_lowest 2 T) (by decide) (by rfl) T.f__law_lowest.g T.f__law_lowest.F.kp T.f__law_lowest.b (af_cons (ef_name 5 (pv 5)) (af_cons (ef_name 6 (pv 6)) af_nil))) af_nil)))
  (sfs_one (sf_expr (ef_bm C.K PySem.F.plainAttrs_list PySem.F.slot_list_append PySem.F.type_list_append tyF_L om_app (ef_name 3 (pv 3)) (af_cons (ef_make (C := 2) C T.m_Share (ok_Share___init__ T) (by decide) (by rfl) T.c_Share T.f_Share___init__.b (af_cons (ef_name 5 (pv 5)) (af_cons (ef_name 6 (pv 6)) af_nil))) af_nil)))))))))
  (sfs_cons (sf_for C.po C.calm (if_rng1 (by rfl) T.n_range (af_cons ef_int af_nil) len1) (gf_name 4 C.nd rfl (.inl rfl))
  (sfs_cons (sf_set 7 C.nd rfl (.inl rfl) (ef_bin (o_add C.K) (ef_bin (o_add C.K) (ef_bin (o_add C.K) (ef_bin (o_add C.K) ef_str (ef_callTy ob_str (by rfl) T.n_str (by decide +kernel) (af_cons (ef_ix C.K (ef_ix C.K (ef_name 2 (pv 2)) (ef_name 4 (pv 4)) (fun _ _ => rfl)) ef_int (fun _ _ => rfl)) af_nil))) ef_str) (ef_callTy ob_str (by rfl) T.n_str (by decide +kernel) (af_cons (ef_ix C.K (ef_ix C.K (ef_name 2 (pv 2)) (ef_name 4 (pv 4)) (fun _ _ => rfl)) ef_int (fun _ _ => rfl)) af_nil))) ef_str))
  (sfs_cons (sf_if (tf_w (wf_or (tf_not (tf_val (ef_call C (ok__law_is_share T) (by decide) (by rfl) T.f__law_is_share.g T.f__law_is_share.F.kp T.f__law_is_share.b (af_cons (ef_ix C.K (ef_name 3 (pv 3)) (ef_name 4 (pv 4)) (fun _ _ => rfl)) (af_cons (ef_ix C.K (ef_name 2 (pv 2)) (ef_name 4 (pv 4)) (fun _ _ => rfl)) af_nil))))) (wf_or1 (tf_not (tf_val (ef_call C (ok__law_like 4 T) (by decide) (by rfl) T.f__law_like.g T.f__law_like.F.kp T.f__law_like.b (af_cons (ef_reprX (C := 2) C ⟨⟨T.f_Share___repr__.f, T.f_Share___repr__.d, _, _, T.f_Share___repr__.at_, T.f_Share___repr__.fn, ok_Share___repr__ T, (by decide), T.f_Share___repr__.b⟩⟩ (by decide) (by rfl) T.n_repr (by decide +kernel) (ef_ix C.K (ef_name 3 (pv 3)) (ef_name 4 (pv 4)) (fun _ _ => rfl))) (af_cons (ef_name 7 (pv 7)) af_nil)))))))) (sfs_one (sf_ret ef_bl)) sfs_nil)
  (sfs_cons (sf_for C.po C.calm (if_rng1 (by rfl) T.n_range (af_cons ef_int af_nil) len1) (gf_name 8 C.nd rfl (.inl rfl))
  (sfs_one (sf_if (tf_not (tf_val (ef_call C (ok__law_pair_right T) (by decide) (by rfl) T.f__law_pair_right.g T.f__law_pair_right.F.kp T.f__law_pair_right.b (af_cons (ef_ix C.K (ef_name 2 (pv 2)) (ef_name 4 (pv 4)) (fun _ _ => rfl)) (af_cons (ef_ix C.K (ef_name 2 (pv 2)) (ef_name 8 (pv 8)) (fun _ _ => rfl)) (af_cons (ef_ix C.K (ef_name 3 (pv 3)) (ef_name 4 (pv 4)) (fun _ _ => rfl)) (af_cons (ef_ix C.K (ef_name 3 (pv 3)) (ef_name 8 (pv 8)) (fun _ _ => rfl)) af_nil))))))) (sfs_one (sf_ret ef_bl)) sfs_nil)))
  (sfs_one (sf_for C.po C.calm (if_seq C.K (ef_l (lf_lst (af_cons ef_non (af_cons ef_bl (af_cons ef_int (af_cons ef_int (af_cons (ef_ix C.K (ef_ix C.K (ef_name 2 (pv 2)) (ef_name 4 (pv 4)) (fun _ _ => rfl)) ef_int (fun _ _ => rfl)) (af_cons (ef_ix C.K (ef_name 2 (pv 2)) (ef_name 4 (pv 4)) (fun _ _ => rfl)) (af_cons (ef_l (lf_lst (af_cons (ef_ix C.K (ef_name 3 (pv 3)) (ef_name 4 (pv 4)) (fun _ _ => rfl)) af_nil))) (af_cons ef_str (af_cons (ef_name 7 (pv 7)) af_nil)))))))))))) (gf_name 9 C.nd rfl (.inl rfl))
  (sfs_one (sf_if (tf_not (tf_val (ef_call C (ok__law_like 4 T) (by decide) (by rfl) T.f__law_like.g T.f__law_like.F.kp T.f__law_like.b (af_cons (ef_l (lf_lst (af_cons (ef_cmpS (os_eqX (C := 2) C ⟨⟨T.f_Share___eq__.f, T.f_Share___eq__.d, _, _, T.f_Share___eq__.at_, T.f_Share___eq__.fn, ok_Share___eq__ T, (by decide), T.f_Share___eq__.b⟩⟩ T.is T.eq_Share) (ef_ix C.K (ef_name 3 (pv 3)) (ef_name 4 (pv 4)) (fun _ _ => rfl)) (ef_name 9 (pv 9))) (af_cons (ef_cmpS (os_neX (C := 2) C ⟨⟨T.f_Share___eq__.f, T.f_Share___eq__.d, _, _, T.f_Share___eq__.at_, T.f_Share___eq__.fn, ok_Share___eq__ T, (by decide), T.f_Share___eq__.b⟩⟩ (by decide) T.ne_Share T.k_Share.hm T.is T.eq_Share) (ef_ix C.K (ef_name 3 (pv 3)) (ef_name 4 (pv 4)) (fun _ _ => rfl)) (ef_name 9 (pv 9))) af_nil)))) (af_cons (ef_l (lf_lst (af_cons ef_bl (af_cons ef_bl af_nil)))) af_nil))))) (sfs_one (sf_ret ef_bl)) sfs_nil))))))))
  (sfs_cons (sf_set 10 C.nd rfl (.inl rfl) (ef_call C (ok__law_integer T) (by decide) (by rfl) T.f__law_integer.g T.f__law_integer.F.kp T.f__law_integer.b (af_cons (ef_name 1 (pv 1)) af_nil)))
  (sfs_cons (sf_if (tf_w (wf_or (tf_not (tf_val (ef_call C (ok__law_is_share T) (by decide) (by rfl) T.f__law_is_share.g T.f__law_is_share.F.kp T.f__law_is_share.b (af_cons (ef_cmeth (C := 2) C (ef_gcl (C := 2) (by rfl) T.c_Share) T.f_Share_whole.r T.f_Share_whole.c (ok_Share_whole T) (by decide) T.f_Share_whole.b (af_cons (ef_name 10 (pv 10)) af_nil)) (af_cons (ef_tup (af_cons (ef_name 10 (pv 10)) (af_cons ef_int af_nil)) C.K) af_nil))))) (wf_or1 (tf_not (tf_val (ef_call C (ok__law_is_share T) (by decide) (by rfl) T.f__law_is_share.g T.f__law_is_share.F.kp T.f__law_is_share.b (af_cons (ef_makeK0 (C := 2) (ks := ["under", "over"]) C T.m_Share (ok_Share___init__ T) (by decide) (by rfl) T.c_Share (Fun.kwb T.f_Share___init__.F 1 ["under", "over"] [1, 0] (fun _ _ _ _ _ _ us ws h1 h2 => match us, h1, ws, h2 with | [_], _, [_, _], _ => rfl)) (kf_cons ef_int (kf_cons ef_int kf_nil)) (fun ds es h1 h2 => match ds, h1, es, h2 with | [_], _, [_, _], _ => rfl)) (af_cons (ef_tup (af_cons ef_int (af_cons ef_int af_nil)) C.K) af_nil)))))))) (sfs_one (sf_ret ef_bl)) sfs_nil)
  (sfs_cons (sf_set 11 C.nd rfl (.inl rfl) (ef_ix C.K (ef_l (lf_lst (af_cons ef_bl (af_cons ef_non (af_cons ef_str (af_cons (ef_tup (af_cons ef_int af_nil) C.K) (af_cons (ef_l (lf_lst (af_cons ef_int af_nil))) (af_cons ef_bl (af_cons (ef_ix C.K (ef_name 3 (pv 3)) ef_int (fun _ _ => rfl)) af_nil))))))))) (ef_call C (ok__law_take T) (by decide) (by rfl) T.f__law_take.g T.f__law_take.F.kp T.f__law_take.b (af_cons (ef_name 1 (pv 1)) (af_cons ef_int af_nil))) (fun _ _ => rfl)))
  (sfs_cons (sf_set 12 C.nd rfl (.inl rfl) (ef_ix C.K (ef_l (lf_lst (af_cons ef_bl (af_cons ef_non (af_cons ef_str (af_cons (ef_tup (af_cons ef_int af_nil) C.K) (af_cons ef_bl af_nil))))))) (ef_call C (ok__law_take T) (by decide) (by rfl) T.f__law_take.g T.f__law_take.F.kp T.f__law_take.b (af_cons (ef_name 1 (pv 1)) (af_cons ef_int af_nil))) (fun _ _ => rfl)))
  (sfs_cons (sf_if (tf_w (wf_or (tf_not (tf_val (ef_call C (ok__law_like 4 T) (by decide) (by rfl) T.f__law_like.g T.f__law_like.F.kp T.f__law_like.b (af_cons (ef_call C (ok__law_told T) (by decide) (by rfl) T.f__law_told.g T.f__law_told.F.kp T.f__law_told.b (af_cons (ef_name 11 (pv 11)) (af_cons (ef_name 12 (pv 12)) af_nil))) (af_cons (ef_l (lf_lst (af_cons ef_str (af_cons (ef_name 11 (pv 11)) af_nil)))) af_nil))))) (wf_or1 (tf_not (tf_val (ef_call C (ok__law_like 4 T) (by decide) (by rfl) T.f__law_like.g T.f__law_like.F.kp T.f__law_like.b (af_cons (ef_call C (ok__law_told T) (by decide) (by rfl) T.f__law_told.g T.f__law_told.F.kp T.f__law_told.b (af_cons (ef_name 10 (pv 10)) (af_cons (ef_name 12 (pv 12)) af_nil))) (af_cons (ef_l (lf_lst (af_cons ef_str (af_cons (ef_name 12 (pv 12)) af_nil)))) af_nil)))))))) (sfs_one (sf_ret ef_bl)) sfs_nil)
  (sfs_cons (sf_if (tf_w (wf_or (tf_not (tf_val (ef_call C (ok__law_like 4 T) (by decide) (by rfl) T.f__law_like.g T.f__law_like.F.kp T.f__law_like.b (af_cons (ef_call C (ok__law_told T) (by decide) (by rfl) T.f__law_told.g T.f__law_told.F.kp T.f__law_told.b (af_cons (ef_name 11 (pv 11)) (af_cons ef_int af_nil))) (af_cons (ef_l (lf_lst (af_cons ef_str (af_cons (ef_name 11 (pv 11)) af_nil)))) af_nil))))) (wf_or1 (tf_not (tf_val (ef_call C (ok__law_like 4 T) (by decide) (by rfl) T.f__law_like.g T.f__law_like.F.kp T.f__law_like.b (af_cons (ef_call C (ok__law_told T) (by decide) (by rfl) T.f__law_told.g T.f__law_told.F.kp T.f__law_told.b (af_cons (ef_name 10 (pv 10)) (af_cons ef_int af_nil))) (af_cons (ef_l (lf_lst (af_cons ef_str (af_cons ef_int af_nil)))) af_nil)))))))) (sfs_one (sf_ret ef_bl)) sfs_nil)
  (sfs_one (sf_ret (ef_call C (ok__law_like 4 T) (by decide) (by rfl) T.f__law_like.g T.f__law_like.F.kp T.f__law_like.b (af_cons (ef_call C (ok__law_whole_told T) (by decide) (by rfl) T.f__law_whole_told.g T.f__law_whole_told.F.kp T.f__law_whole_told.b (af_cons (ef_name 11 (pv 11)) af_nil)) (af_cons (ef_l (lf_lst (af_cons ef_str (af_cons (ef_name 11 (pv 11)) af_nil)))) af_nil))))))))))))))))
end
theorem tx_of {K : PySem.W.Frag} {mg : Str → Option Value} {h : Heap} (KX : K.In h) (G : h.Ns mainGlobals mg)
    (q1 : He.Fa.ok K (.free "abs") = true)
    (q2 : He.Fa.ok K (.free "int") = true)
    (q3 : He.Fa.ok K (.free "range") = true)
    (q4 : He.Fa.ok K (.free "len") = true)
    (q5 : He.Fa.ok K (.free "isinstance") = true)
    (q6 : isB K (clOf K NM) IsL = true)
    (q7 : He.Fa.ok K (.free "bool") = true)
    (q8 : He.Fa.ok K (.glo "InvalidNumber") = true)
    (q9 : oexB K (clOf K NM 1) = true)
    (q10 : He.eqO (PySem.W.findIn K (.ref (clOf K NM 1)) "value") (some none) = true)
    (q11 : (He.eqO (PySem.W.findIn K (.ref (clOf K NM 1)) "__init__") (some (some (.ref (He.ma K (clOf K NM 1) "__init__")))) && PySem.W.isFn K (.ref (He.ma K (clOf K NM 1) "__init__"))) = true)
    (q12 : fnVal K (He.ma K (clOf K NM 1) "__init__") = stVal "__init__" "InvalidNumber.__init__" s_InvalidNumber___init__)
    (q13 : codeB K (He.ma K (clOf K NM 1) "__init__") "InvalidNumber.__init__" = true)
    (q14 : PySem.W.nsIn K mainGlobals "gcd" = some (some (.builtin "math.gcd")))
    (q15 : insB K (clOf K NM 2) = true)
    (q16 : He.eqO (PySem.W.findIn K (.ref (clOf K NM 2)) "over") (some none) = true)
    (q17 : He.eqO (PySem.W.findIn K (.ref (clOf K NM 2)) "under") (some none) = true)
    (q18 : He.Fa.ok K (.glo "Share") = true)
    (q19 : He.Fa.ok K (.free "str") = true)
    (q20 : He.Fa.ok K (.free "repr") = true)
    (q21 : He.Fa.ok K (.free "list") = true)
    (q22 : He.Fa.ok K (.free "tuple") = true)
    (q23 : eqKB K (clOf K NM) IsL 2 = true)
    (q24 : PySem.W.selfFirst K (clOf K NM 2) = true)
    (q25 : PySem.W.findIn K (.ref (clOf K NM 2)) "__ne__" = some (some (.builtin "object.__ne__")))
    (q26 : errsB K (clOf K NM) (nE + 1) = true)
    (q27 : xnB K (clOf K NM) nE "value" = true)
    (q28 : He.Fa.ok K (.glo "_law_draws") = true)
    (q29 : fnVal K (He.ga K "_law_draws") = stVal "_law_draws" "_law_draws" s__law_draws)
    (q30 : codeB K (He.ga K "_law_draws") "_law_draws" = true)
    (q31 : He.Fa.ok K (.glo "_law_take") = true)
    (q32 : fnVal K (He.ga K "_law_take") = stVal "_law_take" "_law_take" s__law_take)
    (q33 : codeB K (He.ga K "_law_take") "_law_take" = true)
    (q34 : He.Fa.ok K (.glo "_law_integer") = true)
    (q35 : fnVal K (He.ga K "_law_integer") = stVal "_law_integer" "_law_integer" s__law_integer)
    (q36 : codeB K (He.ga K "_law_integer") "_law_integer" = true)
    (q37 : He.Fa.ok K (.glo "_law_divisor") = true)
    (q38 : fnVal K (He.ga K "_law_divisor") = stVal "_law_divisor" "_law_divisor" s__law_divisor)
    (q39 : codeB K (He.ga K "_law_divisor") "_law_divisor" = true)
    (q40 : He.Fa.ok K (.glo "_law_lowest") = true)
    (q41 : fnVal K (He.ga K "_law_lowest") = stVal "_law_lowest" "_law_lowest" s__law_lowest)
    (q42 : codeB K (He.ga K "_law_lowest") "_law_lowest" = true)
    (q43 : He.Fa.ok K (.glo "is_integer") = true)
    (q44 : fnVal K (He.ga K "is_integer") = stVal "is_integer" "is_integer" s_is_integer)
    (q45 : codeB K (He.ga K "is_integer") "is_integer" = true)
    (q46 : (He.eqO (PySem.W.findIn K (.ref (clOf K NM 2)) "__init__") (some (some (.ref (He.ma K (clOf K NM 2) "__init__")))) && PySem.W.isFn K (.ref (He.ma K (clOf K NM 2) "__init__"))) = true)
    (q47 : fnVal K (He.ma K (clOf K NM 2) "__init__") = stVal "__init__" "Share.__init__" s_Share___init__)
    (q48 : codeB K (He.ma K (clOf K NM 2) "__init__") "Share.__init__" = true)
    (q49 : (He.eqO (PySem.W.findIn K (.ref (clOf K NM 2)) "__repr__") (some (some (.ref (He.ma K (clOf K NM 2) "__repr__")))) && PySem.W.isFn K (.ref (He.ma K (clOf K NM 2) "__repr__"))) = true)
    (q50 : fnVal K (He.ma K (clOf K NM 2) "__repr__") = stVal "__repr__" "Share.__repr__" s_Share___repr__)
    (q51 : codeB K (He.ma K (clOf K NM 2) "__repr__") "Share.__repr__" = true)
    (q52 : (He.eqO (PySem.W.findIn K (.ref (clOf K NM 2)) "__eq__") (some (some (.ref (He.ma K (clOf K NM 2) "__eq__")))) && PySem.W.isFn K (.ref (He.ma K (clOf K NM 2) "__eq__"))) = true)
    (q53 : fnVal K (He.ma K (clOf K NM 2) "__eq__") = stVal "__eq__" "Share.__eq__" s_Share___eq__)
    (q54 : codeB K (He.ma K (clOf K NM 2) "__eq__") "Share.__eq__" = true)
    (q55 : He.Fa.ok K (.glo "_law_like") = true)
    (q56 : fnVal K (He.ga K "_law_like") = stVal "_law_like" "_law_like" s__law_like)
    (q57 : codeB K (He.ga K "_law_like") "_law_like" = true)
    (q58 : He.Fa.ok K (.glo "_law_is_share") = true)
    (q59 : fnVal K (He.ga K "_law_is_share") = stVal "_law_is_share" "_law_is_share" s__law_is_share)
    (q60 : codeB K (He.ga K "_law_is_share") "_law_is_share" = true)
    (q61 : (He.eqO (PySem.W.findIn K (.ref (clOf K NM 2)) "__sub__") (some (some (.ref (He.ma K (clOf K NM 2) "__sub__")))) && PySem.W.isFn K (.ref (He.ma K (clOf K NM 2) "__sub__"))) = true)
    (q62 : fnVal K (He.ma K (clOf K NM 2) "__sub__") = stVal "__sub__" "Share.__sub__" s_Share___sub__)
    (q63 : codeB K (He.ma K (clOf K NM 2) "__sub__") "Share.__sub__" = true)
    (q64 : He.Fa.ok K (.glo "_law_sum") = true)
    (q65 : fnVal K (He.ga K "_law_sum") = stVal "_law_sum" "_law_sum" s__law_sum)
    (q66 : codeB K (He.ga K "_law_sum") "_law_sum" = true)
    (q67 : (He.eqO (PySem.W.findIn K (.ref (clOf K NM 2)) "__add__") (some (some (.ref (He.ma K (clOf K NM 2) "__add__")))) && PySem.W.isFn K (.ref (He.ma K (clOf K NM 2) "__add__"))) = true)
    (q68 : fnVal K (He.ma K (clOf K NM 2) "__add__") = stVal "__add__" "Share.__add__" s_Share___add__)
    (q69 : codeB K (He.ma K (clOf K NM 2) "__add__") "Share.__add__" = true)
    (q70 : (He.eqO (PySem.W.findIn K (.ref (clOf K NM 2)) "__mul__") (some (some (.ref (He.ma K (clOf K NM 2) "__mul__")))) && PySem.W.isFn K (.ref (He.ma K (clOf K NM 2) "__mul__"))) = true)
    (q71 : fnVal K (He.ma K (clOf K NM 2) "__mul__") = stVal "__mul__" "Share.__mul__" s_Share___mul__)
    (q72 : codeB K (He.ma K (clOf K NM 2) "__mul__") "Share.__mul__" = true)
    (q73 : (He.eqO (PySem.W.findIn K (.ref (clOf K NM 2)) "is_below") (some (some (.ref (He.ma K (clOf K NM 2) "is_below")))) && PySem.W.isFn K (.ref (He.ma K (clOf K NM 2) "is_below"))) = true)
    (q74 : fnVal K (He.ma K (clOf K NM 2) "is_below") = stVal "is_below" "Share.is_below" s_Share_is_below)
    (q75 : codeB K (He.ma K (clOf K NM 2) "is_below") "Share.is_below" = true)
    (q76 : He.Fa.ok K (.glo "_law_pair_right") = true)
    (q77 : fnVal K (He.ga K "_law_pair_right") = stVal "_law_pair_right" "_law_pair_right" s__law_pair_right)
    (q78 : codeB K (He.ga K "_law_pair_right") "_law_pair_right" = true)
    (q79 : cmB K (clOf K NM 2) "whole" = true)
    (q80 : fnVal K (cmFn K (cmAt K (clOf K NM 2) "whole")) = stVal "whole" "Share.whole" s_Share_whole)
    (q81 : codeB K (cmFn K (cmAt K (clOf K NM 2) "whole")) "Share.whole" = true)
    (q82 : He.Fa.ok K (.glo "_law_told") = true)
    (q83 : fnVal K (He.ga K "_law_told") = stVal "_law_told" "_law_told" s__law_told)
    (q84 : codeB K (He.ga K "_law_told") "_law_told" = true)
    (q85 : He.Fa.ok K (.glo "_law_whole_told") = true)
    (q86 : fnVal K (He.ga K "_law_whole_told") = stVal "_law_whole_told" "_law_whole_told" s__law_whole_told)
    (q87 : codeB K (He.ga K "_law_whole_told") "_law_whole_told" = true)
    (q88 : He.Fa.ok K (.glo "law") = true)
    (q89 : fnVal K (He.ga K "law") = stVal "law" "law" s_law)
    (q90 : codeB K (He.ga K "law") "law" = true)
    (q91 : mkB K (clOf K NM 2) = true) : Nonempty (Tx K mg) := by
  have n_abs : mg "abs" = none := He.free_ok KX G q1
  have n_int : mg "int" = none := He.free_ok KX G q2
  have n_range : mg "range" = none := He.free_ok KX G q3
  have n_len : mg "len" = none := He.free_ok KX G q4
  have n_isinstance : mg "isinstance" = none := He.free_ok KX G q5
  have is : IsK K (clOf K NM) IsL := isB_ok q6
  have n_bool : mg "bool" = none := He.free_ok KX G q7
  have c_InvalidNumber : mg "InvalidNumber" = some (.ref (clOf K NM 1)) := He.glo_ok KX G q8
  have ox_InvalidNumber : OexC K (clOf K NM 1) := oexB_ok q9
  have xx_InvalidNumber_value : PySem.W.findIn K (.ref (clOf K NM 1)) "value" = some none := He.eqO_ok q10
  obtain ⟨xi_InvalidNumber⟩ : Nonempty (MtT K (clOf K NM 1) "__init__" "InvalidNumber.__init__" ["self", "value"] s_InvalidNumber___init__) := mtT_of (fun _ _ _ _ _ _ us hl => match us, hl with | [_, _], _ => rfl) q11 q12 q13
  have g_gcd : mg "gcd" = some (.builtin "math.gcd") := PySem.W.mg_of KX G q14
  have k_Share : InsK K (clOf K NM 2) := insB_ok q15
  have na_Share_over : NoAttr K (clOf K NM 2) "over" := He.eqO_ok q16
  have na_Share_under : NoAttr K (clOf K NM 2) "under" := He.eqO_ok q17
  have c_Share : mg "Share" = some (.ref (clOf K NM 2)) := He.glo_ok KX G q18
  have n_str : mg "str" = none := He.free_ok KX G q19
  have n_repr : mg "repr" = none := He.free_ok KX G q20
  have n_list : mg "list" = none := He.free_ok KX G q21
  have n_tuple : mg "tuple" = none := He.free_ok KX G q22
  have eq_Share : EqK K (clOf K NM) IsL 2 := eqKB_ok q23
  have sf_Share : PySem.W.selfFirst K (clOf K NM 2) = true := q24
  have ne_Share : PySem.W.findIn K (.ref (clOf K NM 2)) "__ne__" = some (some (.builtin "object.__ne__")) := q25
  have er : ErrK K (clOf K NM) nE := errsB_ok q26
  have xn_value : ∀ c, c ≤ nE → PySem.W.findIn K (.ref (clOf K NM c)) "value" = some none := xnB_ok q27
  obtain ⟨f__law_draws⟩ : Nonempty (FnT K mg "_law_draws" ["_law_script", "_law_many"] s__law_draws) := fnT_of KX G (fun _ _ _ _ _ _ us hl => match us, hl with | [_, _], _ => rfl) q28 q29 q30
  obtain ⟨f__law_take⟩ : Nonempty (FnT K mg "_law_take" ["_law_hand", "_law_many"] s__law_take) := fnT_of KX G (fun _ _ _ _ _ _ us hl => match us, hl with | [_, _], _ => rfl) q31 q32 q33
  obtain ⟨f__law_integer⟩ : Nonempty (FnT K mg "_law_integer" ["_law_hand"] s__law_integer) := fnT_of KX G (fun _ _ _ _ _ _ us hl => match us, hl with | [_], _ => rfl) q34 q35 q36
  obtain ⟨f__law_divisor⟩ : Nonempty (FnT K mg "_law_divisor" ["_law_a", "_law_b"] s__law_divisor) := fnT_of KX G (fun _ _ _ _ _ _ us hl => match us, hl with | [_, _], _ => rfl) q37 q38 q39
  obtain ⟨f__law_lowest⟩ : Nonempty (FnT K mg "_law_lowest" ["_law_over", "_law_under"] s__law_lowest) := fnT_of KX G (fun _ _ _ _ _ _ us hl => match us, hl with | [_, _], _ => rfl) q40 q41 q42
  obtain ⟨f_is_integer⟩ : Nonempty (FnT K mg "is_integer" ["value"] s_is_integer) := fnT_of KX G (fun _ _ _ _ _ _ us hl => match us, hl with | [_], _ => rfl) q43 q44 q45
  obtain ⟨f_Share___init__⟩ : Nonempty (MtT K (clOf K NM 2) "__init__" "Share.__init__" ["self", "over", "under"] s_Share___init__) := mtT_of (fun _ _ _ _ _ _ us hl => match us, hl with | [_, _, _], _ => rfl) q46 q47 q48
  obtain ⟨f_Share___repr__⟩ : Nonempty (MtT K (clOf K NM 2) "__repr__" "Share.__repr__" ["self"] s_Share___repr__) := mtT_of (fun _ _ _ _ _ _ us hl => match us, hl with | [_], _ => rfl) q49 q50 q51
  obtain ⟨f_Share___eq__⟩ : Nonempty (MtT K (clOf K NM 2) "__eq__" "Share.__eq__" ["self", "other"] s_Share___eq__) := mtT_of (fun _ _ _ _ _ _ us hl => match us, hl with | [_, _], _ => rfl) q52 q53 q54
  obtain ⟨f__law_like⟩ : Nonempty (FnT K mg "_law_like" ["_law_found", "_law_due"] s__law_like) := fnT_of KX G (fun _ _ _ _ _ _ us hl => match us, hl with | [_, _], _ => rfl) q55 q56 q57
  obtain ⟨f__law_is_share⟩ : Nonempty (FnT K mg "_law_is_share" ["_law_found", "_law_pair"] s__law_is_share) := fnT_of KX G (fun _ _ _ _ _ _ us hl => match us, hl with | [_, _], _ => rfl) q58 q59 q60
  obtain ⟨f_Share___sub__⟩ : Nonempty (MtT K (clOf K NM 2) "__sub__" "Share.__sub__" ["self", "other"] s_Share___sub__) := mtT_of (fun _ _ _ _ _ _ us hl => match us, hl with | [_, _], _ => rfl) q61 q62 q63
  obtain ⟨f__law_sum⟩ : Nonempty (FnT K mg "_law_sum" ["_law_one", "_law_two"] s__law_sum) := fnT_of KX G (fun _ _ _ _ _ _ us hl => match us, hl with | [_, _], _ => rfl) q64 q65 q66
  obtain ⟨f_Share___add__⟩ : Nonempty (MtT K (clOf K NM 2) "__add__" "Share.__add__" ["self", "other"] s_Share___add__) := mtT_of (fun _ _ _ _ _ _ us hl => match us, hl with | [_, _], _ => rfl) q67 q68 q69
  obtain ⟨f_Share___mul__⟩ : Nonempty (MtT K (clOf K NM 2) "__mul__" "Share.__mul__" ["self", "other"] s_Share___mul__) := mtT_of (fun _ _ _ _ _ _ us hl => match us, hl with | [_, _], _ => rfl) q70 q71 q72
  obtain ⟨f_Share_is_below⟩ : Nonempty (MtT K (clOf K NM 2) "is_below" "Share.is_below" ["self", "other"] s_Share_is_below) := mtT_of (fun _ _ _ _ _ _ us hl => match us, hl with | [_, _], _ => rfl) q73 q74 q75
  obtain ⟨f__law_pair_right⟩ : Nonempty (FnT K mg "_law_pair_right" ["_law_one", "_law_two", "_law_a", "_law_b"] s__law_pair_right) := fnT_of KX G (fun _ _ _ _ _ _ us hl => match us, hl with | [_, _, _, _], _ => rfl) q76 q77 q78
  obtain ⟨f_Share_whole⟩ : Nonempty (CmT K (clOf K NM 2) "whole" "Share.whole" ["cls", "number"] s_Share_whole) := cmT_of (fun _ _ _ _ _ _ us hl => match us, hl with | [_, _], _ => rfl) q79 q80 q81
  obtain ⟨f__law_told⟩ : Nonempty (FnT K mg "_law_told" ["_law_over", "_law_under"] s__law_told) := fnT_of KX G (fun _ _ _ _ _ _ us hl => match us, hl with | [_, _], _ => rfl) q82 q83 q84
  obtain ⟨f__law_whole_told⟩ : Nonempty (FnT K mg "_law_whole_told" ["_law_number"] s__law_whole_told) := fnT_of KX G (fun _ _ _ _ _ _ us hl => match us, hl with | [_], _ => rfl) q85 q86 q87
  obtain ⟨f_law⟩ : Nonempty (FnT K mg "law" ["_law_script"] s_law) := fnT_of KX G (fun _ _ _ _ _ _ us hl => match us, hl with | [_], _ => rfl) q88 q89 q90
  have m_Share : Mk K (clOf K NM 2) f_Share___init__.f := mkB_ok q91 f_Share___init__
  exact ⟨⟨n_abs, n_int, n_range, n_len, n_isinstance, is, n_bool, c_InvalidNumber, ox_InvalidNumber, xx_InvalidNumber_value, xi_InvalidNumber, g_gcd, k_Share, na_Share_over, na_Share_under, c_Share, n_str, n_repr, n_list, n_tuple, eq_Share, sf_Share, ne_Share, er, xn_value, f__law_draws, f__law_take, f__law_integer, f__law_divisor, f__law_lowest, f_is_integer, f_Share___init__, f_Share___repr__, f_Share___eq__, f__law_like, f__law_is_share, f_Share___sub__, f__law_sum, f_Share___add__, f_Share___mul__, f_Share_is_below, f__law_pair_right, f_Share_whole, f__law_told, f__law_whole_told, f_law, m_Share⟩⟩
end LW

set_option linter.all false
set_option maxRecDepth 100000
set_option maxHeartbeats 4000000
namespace LW
open PySem PySem.Spec L2 FL
/-- the hand: the draws and how many are taken -/
abbrev handC (dr : List D) (k : Nat) : Cell := .lst [.lst dr, .int k]
theorem take_ok {dr : List D} (hd : Ints dr) {k : Nat} {m : Int} {cs : List Cell} {h : Nat} (hc : cs[h]? = some (handC dr k)) (hm : 0 < m) :
    ∃ v : Int, F__law_take [.rf h, .d (.int m)] cs = .ok (.d (.int v)) (cs.set h (handC dr (k + 1))) ∧ 0 ≤ v ∧ v < m := by
  have hl : h < cs.length := (List.getElem?_eq_some_iff.mp hc).1
  have hs : ∀ c, (cs.set h c)[h]? = some c := fun c => List.getElem?_set_self hl
  by_cases hk : k < dr.length
  · obtain ⟨z, e⟩ := hd.at hk
    have e2 : dr[k] = .int z := by rw [List.getElem?_eq_getElem hk] at e; exact Option.some.inj e
    have nk : ¬ dr.length ≤ k := by omega
    refine ⟨z / 7 % m, ?_, Int.emod_nonneg _ (by omega), Int.emod_lt_of_pos _ hm⟩
    simp [F__law_take, fnF_eq, r0, g__law_take, hc, hs, hk, e, e2, hm, nk, handC]
  · have : dr.length ≤ k := by omega
    refine ⟨0, ?_, Int.le_refl _, hm⟩
    simp [F__law_take, fnF_eq, r0, g__law_take, hc, hs, hk, hm, this, handC]
theorem rests_ok {ns : List Int} (hn : ns.length ≤ 63) (cs : List Cell) (m : Int) : ∃ rests : List D, l__law_draws_1 ⟨[some (.d (.scr (ns.map D.int))), some (.d (.int m)), none, none, none, none, none, none], cs⟩ =
    .ok rests ⟨[some (.d (.scr (ns.map D.int))), some (.d (.int m)), none, none, none, none, none, none], cs⟩ ∧ Ints rests ∧ rests.length = ns.length := by
  refine ⟨(ns.map D.int).map fun d => match d with | .int z => .int (if z < 0 then -z else z) | d => d, lcF_all _ (by simp) (by simp; omega) fun d hd acc => ?_, fun d hd => ?_, by simp⟩
  · obtain ⟨z, _, rfl⟩ := List.mem_map.mp hd
    simp
  · obtain ⟨d', hd', rfl⟩ := List.mem_map.mp hd
    obtain ⟨z, _, rfl⟩ := List.mem_map.mp hd'
    exact ⟨_, rfl⟩
theorem draws_ok (ns : List Int) (hn : ns.length ≤ 63) (m : Int) (h0 : 0 ≤ m) (h1 : m ≤ 1000) (cs : List Cell) : ∃ dr : List D, F__law_draws [.d (.scr (ns.map D.int)), .d (.int m)] cs = .ok (.d (.lst dr)) cs ∧ Ints dr := by
  obtain ⟨rests0, er, ir, lr⟩ := rests_ok hn cs m
  let P : List D → S → Prop := fun r s => (∀ d ∈ r, ∃ z : Int, d = .int z ∧ 0 ≤ z ∧ z < m) ∧ ∃ (x2 x5 x6 x7 : Option Val) (rests draws : List D), s = ⟨[some (.d (.scr (ns.map D.int))), some (.d (.int m)), x2, some (.rf cs.length), some (.rf (cs.length + 1)), x5, x6, x7], cs ++ [.lst rests, .lst draws]⟩ ∧
    Ints rests ∧ rests.length = ns.length ∧ Ints draws ∧ draws.length + r.length ≤ 1000
  have loop := forF_inv (g := nmG 5) (b := b__law_draws_1) P (fun d r s ⟨hr, x2, x5, x6, x7, rests, draws, e, i1, i2, i3, i4⟩ => ?_) (rangeD 0 m.toNat)
    ⟨[some (.d (.scr (ns.map D.int))), some (.d (.int m)), none, some (.rf cs.length), some (.rf (cs.length + 1)), none, none, none], cs ++ [.lst rests0, .lst []]⟩
    ⟨fun d hd => by obtain ⟨z, e, a, b⟩ := ints_range 0 m.toNat d hd; exact ⟨z, e, a, by omega⟩, none, none, none, none, rests0, [], rfl, ir, lr, fun d hd => by simp at hd, by rw [rangeD_length]; simp; omega⟩
  · obtain ⟨s', e', _, x2, x5, x6, x7, rests, draws, rfl, i1, i2, i3, i4⟩ := loop
    refine ⟨draws, ?_, i3⟩
    have hok : okR m = true := okR_of (by omega) (by omega)
    simp [F__law_draws, fnF_eq, g__law_draws, r0, er, hok, e']
  · subst e
    obtain ⟨z, rfl, z0, z1⟩ := hr d List.mem_cons_self
    have hr2 : ∀ d ∈ r, ∃ z : Int, d = .int z ∧ 0 ≤ z ∧ z < m := fun d hd => hr d (List.mem_cons_of_mem _ hd)
    have hsz : sz (draws.length + 1) = true := sz_of (by simp at i4; omega)
    by_cases hl : ns.length = 0
    · have hb : ∃ (y2 y5 y6 y7 : Option Val) (v : Int), b__law_draws_1 ⟨[some (.d (.scr (ns.map D.int))), some (.d (.int m)), x2, some (.rf cs.length), some (.rf (cs.length + 1)), some (.d (.int z)), x6, x7], cs ++ [.lst rests, .lst draws]⟩ =
          .nx ⟨[some (.d (.scr (ns.map D.int))), some (.d (.int m)), y2, some (.rf cs.length), some (.rf (cs.length + 1)), y5, y6, y7], cs ++ [.lst rests, .lst (draws ++ [.int v])]⟩ := by
        simp [b__law_draws_1, hl, hsz]
      obtain ⟨y2, y5, y6, y7, v, hb⟩ := hb
      exact ⟨_, _, by simp, .inl hb, hr2, y2, y5, y6, y7, rests, _, rfl, i1, i2, i3.snoc v, by simp at i4 ⊢; omega⟩
    · have lp : 0 < ns.length := by omega
      have hz : 0 ≤ z % (ns.length : Int) := Int.emod_nonneg _ (by omega)
      have hz2 : z % (ns.length : Int) < ns.length := Int.emod_lt_of_pos _ (by omega)
      obtain ⟨j, hj⟩ : ∃ j : Nat, z % (ns.length : Int) = (j : Int) := ⟨(z % (ns.length : Int)).toNat, by omega⟩
      have jl : j < ns.length := by omega
      have jr : j < rests.length := by omega
      obtain ⟨rj, ej⟩ := i1.at (i := j) jr
      have ej2 : rests[j] = .int rj := by rw [List.getElem?_eq_getElem jr] at ej; exact Option.some.inj ej
      by_cases hc : 1000000000000000000 ≤ ns[j] ∧ 0 < rj
      · have hb : b__law_draws_1 ⟨[some (.d (.scr (ns.map D.int))), some (.d (.int m)), x2, some (.rf cs.length), some (.rf (cs.length + 1)), some (.d (.int z)), x6, x7], cs ++ [.lst rests, .lst draws]⟩ =
            .ct ⟨[some (.d (.scr (ns.map D.int))), some (.d (.int m)), some (.d (.int ns[j])), some (.rf cs.length), some (.rf (cs.length + 1)), some (.d (.int z)), some (.d (.int j)), x7], cs ++ [.lst (rests.set j (.int (rj / 1000003))), .lst (draws ++ [.int (rj % 1000003)])]⟩ := by
          simp [b__law_draws_1, hl, hsz, lp, hj, jl, ej, ej2, hc, jr]
        exact ⟨_, _, by simp, .inr hb, hr2, _, _, _, _, _, _, rfl, i1.set _ _, by simpa using i2, i3.snoc _, by simp at i4 ⊢; omega⟩
      · have hc2 : 1000000000000000000 ≤ ns[j] → ¬ 0 < rj := fun a b => hc ⟨a, b⟩
        have hb : ∃ (y2 y5 y6 y7 : Option Val) (v : Int), b__law_draws_1 ⟨[some (.d (.scr (ns.map D.int))), some (.d (.int m)), x2, some (.rf cs.length), some (.rf (cs.length + 1)), some (.d (.int z)), x6, x7], cs ++ [.lst rests, .lst draws]⟩ =
            .nx ⟨[some (.d (.scr (ns.map D.int))), some (.d (.int m)), y2, some (.rf cs.length), some (.rf (cs.length + 1)), y5, y6, y7], cs ++ [.lst rests, .lst (draws ++ [.int v])]⟩ := by
          by_cases h1 : 1000000000000000000 ≤ ns[j]
          · simp [b__law_draws_1, hl, hsz, lp, hj, jl, ej, h1, hc2 h1]
          · simp [b__law_draws_1, hl, hsz, lp, hj, jl, ej, h1]
        obtain ⟨y2, y5, y6, y7, v, hb⟩ := hb
        exact ⟨_, _, by simp, .inl hb, hr2, y2, y5, y6, y7, rests, _, rfl, i1, i2, i3.snoc v, by simp at i4 ⊢; omega⟩
/-! ### drawn integers -/
theorem take_at {dr : List D} (hd : Ints dr) {cs : List Cell} {h : Nat} (hl : h < cs.length) (k : Nat) {m : Int} (hm : 0 < m) : ∃ v : Int, F__law_take [.rf h, .d (.int m)] (cs.set h (handC dr k)) = .ok (.d (.int v)) (cs.set h (handC dr (k + 1))) ∧ 0 ≤ v ∧ v < m := by
  obtain ⟨v, e, a, b⟩ := take_ok hd (cs := cs.set h (handC dr k)) (k := k) (List.getElem?_set_self hl) hm
  exact ⟨v, by rw [e, List.set_set], a, b⟩
/-- a bound -/
abbrev Bd (n : Nat) (z : Int) : Prop := z.natAbs < 2 ^ n
theorem integer_ok {dr : List D} (hd : Ints dr) {cs : List Cell} {h : Nat} (hl : h < cs.length) (k : Nat) : ∃ (v : Int) (k' : Nat), F__law_integer [.rf h] (cs.set h (handC dr k)) = .ok (.d (.int v)) (cs.set h (handC dr k')) ∧ Bd 120 v := by
  obtain ⟨v0, e0, a0, b0⟩ := take_at hd hl k (m := 6) (by decide)
  by_cases z : v0 = 0
  · subst z
    obtain ⟨v1, e1, a1, b1⟩ := take_at hd hl (k + 1) (m := 100003) (by decide)
    obtain ⟨v2, e2, a2, b2⟩ := take_at hd hl (k + 1 + 1) (m := 100003) (by decide)
    obtain ⟨v3, e3, a3, b3⟩ := take_at hd hl (k + 1 + 1 + 1) (m := 100003) (by decide)
    obtain ⟨v4, e4, a4, b4⟩ := take_at hd hl (k + 1 + 1 + 1 + 1) (m := 5) (by decide)
    let P : List D → S → Prop := fun r s => r.length ≤ 4 ∧ ∃ (nb : Int) (kk : Nat) (x3 : Option Val), s = ⟨[some (.rf h), some (.d (.int 0)), some (.d (.int nb)), x3], cs.set h (handC dr kk)⟩ ∧ 0 ≤ nb ∧ nb < 100003 ^ (7 - r.length)
    have loop := forF_inv (g := nmG 3) (b := b__law_integer_1) P (fun d r s ⟨hr, nb, kk, x3, e, c1, c2⟩ => ?_) (rangeD 0 v4.toNat)
      ⟨[some (.rf h), some (.d (.int 0)), some (.d (.int ((v1 * 100003 + v2) * 100003 + v3))), none], cs.set h (handC dr (k + 1 + 1 + 1 + 1 + 1))⟩
      ⟨by rw [rangeD_length]; omega, _, _, none, rfl, by omega, by
        rw [rangeD_length]
        have : (100003 : Int) ^ 3 ≤ 100003 ^ (7 - v4.toNat) := by
          have h4 : 7 - v4.toNat = 3 ∨ 7 - v4.toNat = 4 ∨ 7 - v4.toNat = 5 ∨ 7 - v4.toNat = 6 ∨ 7 - v4.toNat = 7 := by omega
          rcases h4 with e | e | e | e | e <;> rw [e] <;> decide
        have : (100003 : Int) ^ 3 = 1000090002700027 := by decide
        omega⟩
    · obtain ⟨s', e', _, nb, kk, x3, rfl, c1, c2⟩ := loop
      obtain ⟨v5, e5, a5, b5⟩ := take_at hd hl kk (m := 2) (by decide)
      have hok : okR v4 = true := okR_of (by omega) (by omega)
      have hc2 : nb < 2 ^ 119 := Int.lt_of_lt_of_le c2 (by decide)
      have h5 : v5 = 0 ∨ v5 = 1 := by omega
      rcases h5 with rfl | rfl
      · refine ⟨nb, kk + 1, ?_, ?_⟩
        · simp [F__law_integer, fnF_eq, g__law_integer, r0, e0, e1, e2, e3, e4, hok, e', e5]
        · show nb.natAbs < 2 ^ 120
          omega
      · refine ⟨-nb, kk + 1, ?_, ?_⟩
        · simp [F__law_integer, fnF_eq, g__law_integer, r0, e0, e1, e2, e3, e4, hok, e', e5]
        · show (-nb).natAbs < 2 ^ 120
          omega
    · subst e
      obtain ⟨v6, e6, a6, b6⟩ := take_at hd hl kk (m := 100003) (by decide)
      have hr3 : r.length ≤ 3 := by simp at hr; omega
      refine ⟨⟨[some (.rf h), some (.d (.int 0)), some (.d (.int nb)), some (.d d)], cs.set h (handC dr kk)⟩, ⟨[some (.rf h), some (.d (.int 0)), some (.d (.int (nb * 100003 + v6))), some (.d d)], cs.set h (handC dr (kk + 1))⟩, rfl, .inl (by simp [b__law_integer_1, e6]), by omega, _, _, _, rfl, by omega, ?_⟩
      have e7 : 7 - r.length = (7 - (d :: r).length) + 1 := by simp; omega
      rw [e7, Int.pow_succ]
      omega
  · obtain ⟨v1, e1, a1, b1⟩ := take_at hd hl (k + 1) (m := 13) (by decide)
    refine ⟨v1 - 6, k + 1 + 1, ?_, ?_⟩
    · simp [F__law_integer, fnF_eq, g__law_integer, r0, e0, e1, z]
    · show (v1 - 6).natAbs < 2 ^ 120
      omega
/-! ### the greatest divisor -/
theorem euc (cs : List Cell) : ∀ (n : Nat) (ds : List D) (a b : Nat) (x2 x3 : Option Val), b ≤ a → a * b < 2 ^ n → n + 1 ≤ ds.length → ∃ r, forF (nmG 2) b__law_divisor_1 ds ⟨[some (.d (.int a)), some (.d (.int b)), x2, x3], cs⟩ = .ret (.d (.int (Nat.gcd a b : Nat))) ⟨r, cs⟩
  | n, [], a, b, x2, x3, _, _, hl => by simp at hl
  | n, d :: ds, a, b, x2, x3, hab, hm, hl => by
    by_cases hb : b = 0
    · subst hb
      exact ⟨_, by rw [forF_cons]; simp [b__law_divisor_1]; rfl⟩
    · cases n with
      | zero =>
        have : 1 ≤ a * b := Nat.mul_pos (by omega) (by omega)
        simp at hm; omega
      | succ n =>
        have h1 : a % b < b := Nat.mod_lt _ (by omega)
        have h2 : 2 * (b * (a % b)) ≤ a * b := by
          have h3 : 2 * (a % b) ≤ a := by
            have := Nat.div_add_mod a b
            have h4 : 1 ≤ a / b := (Nat.one_le_div_iff (by omega)).mpr hab
            have h5 : b * 1 ≤ b * (a / b) := Nat.mul_le_mul_left b h4
            omega
          calc 2 * (b * (a % b)) = b * (2 * (a % b)) := by rw [Nat.mul_left_comm]
            _ ≤ b * a := Nat.mul_le_mul_left b h3
            _ = a * b := Nat.mul_comm _ _
        obtain ⟨r, e⟩ := euc cs n ds b (a % b) (some (.d d)) (some (.d (.int ((a % b : Nat) : Int)))) (by omega) (by rw [Nat.pow_succ] at hm; omega) (by simp at hl; omega)
        refine ⟨r, ?_⟩
        have hb0 : 0 < b := by omega
        have eb : b__law_divisor_1 ⟨[some (.d (.int a)), some (.d (.int b)), some (.d d), x3], cs⟩ = .nx ⟨[some (.d (.int b)), some (.d (.int ((a % b : Nat) : Int))), some (.d d), some (.d (.int ((a % b : Nat) : Int)))], cs⟩ := by
          simp [b__law_divisor_1, hb, hb0]
        rw [forF_cons]
        simp only [nmG_eq, forG_some, List.set_cons_succ, List.set_cons_zero, eb, forK_nx]
        rw [Nat.gcd_comm a b, Nat.gcd_rec b a, Nat.gcd_comm (a % b) b]
        exact e
theorem divisor_ok (a b : Nat) (h : a * b < 2 ^ 590) (cs : List Cell) : F__law_divisor [.d (.int a), .d (.int b)] cs = .ok (.d (.int (Nat.gcd a b : Nat))) cs := by
  have hok : okR 600 = true := rfl
  by_cases hab : b ≤ a
  · obtain ⟨r, e⟩ := euc cs 590 (rangeD 0 600) a b none none hab h (by rw [rangeD_length]; decide)
    simp [F__law_divisor, fnF_eq, g__law_divisor, r0, hok, e]
  · have hb : ¬ ((b : Int) = 0) := by omega
    have hb0 : ¬ (b = 0) := by omega
    have hb3 : (0 : Int) < (b : Int) := by omega
    obtain ⟨r, e⟩ := euc cs 590 (rangeD 1 599) b a (some (.d (.int 0))) (some (.d (.int a))) (by omega) (by rw [Nat.mul_comm]; exact h) (by rw [rangeD_length]; decide)
    have em : (a : Int) % (b : Int) = (a : Int) := by rw [← Int.natCast_emod, Nat.mod_eq_of_lt (by omega)]
    have e1 : forF (nmG 2) b__law_divisor_1 (rangeD 0 600) ⟨[some (.d (.int a)), some (.d (.int b)), none, none], cs⟩ = .ret (.d (.int (Nat.gcd a b : Nat))) ⟨r, cs⟩ := by
      have hb4 : 0 < b := by omega
      have eb : b__law_divisor_1 ⟨[some (.d (.int a)), some (.d (.int b)), some (.d (.int 0)), none], cs⟩ = .nx ⟨[some (.d (.int b)), some (.d (.int a)), some (.d (.int 0)), some (.d (.int a))], cs⟩ := by
        simp [b__law_divisor_1, hb0, hb4, em]
      rw [rangeD_succ, forF_cons]
      simp only [nmG_eq, forG_some, List.set_cons_succ, List.set_cons_zero, eb, forK_nx]
      rw [Nat.gcd_comm a b]
      exact e
    simp [F__law_divisor, fnF_eq, g__law_divisor, r0, hok, e1]
/-! ### lowest terms -/
def gd (o u : Int) : Nat := Nat.gcd o.natAbs u.natAbs
def lowP (o u : Int) : Int × Int := (o / (gd o u : Int), u / (gd o u : Int))
def low (o u : Int) : Int × Int := if u < 0 then lowP (-o) (-u) else lowP o u
def pairD (p : Int × Int) : D := .tup [.int p.1, .int p.2]
theorem gd_pos {o u : Int} (h : u ≠ 0) : 0 < gd o u := Nat.gcd_pos_of_pos_right _ (by omega)
theorem gd_le {o u : Int} (h : u ≠ 0) : gd o u ≤ u.natAbs := Nat.gcd_le_right _ (by omega)
theorem abs_eq (o : Int) : (if o < 0 then -o else o) = ((o.natAbs : Nat) : Int) := by split <;> omega
theorem lowest_pos (n : Nat) {o u : Int} (hu : 0 < u) (bo : Bd 290 o) (bu : Bd 290 u) (cs : List Cell) : F__law_lowest (n + 1) [.d (.int o), .d (.int u)] cs = .ok (.d (pairD (lowP o u))) cs := by
  have hm : o.natAbs * u.natAbs < 2 ^ 590 := by
    have := Nat.mul_lt_mul_of_lt_of_le bo (Nat.le_of_lt bu) (by decide)
    have e : (2 : Nat) ^ 290 * 2 ^ 290 ≤ 2 ^ 590 := by decide
    omega
  have e := divisor_ok o.natAbs u.natAbs hm cs
  have eu : ((u.natAbs : Nat) : Int) = u := by omega
  rw [eu] at e
  have hg := gd_pos (o := o) (u := u) (by omega)
  have hg2 := gd_le (o := o) (u := u) (by omega)
  have hc : ∀ i : Int, cDiv i ((gd o u : Nat) : Int) = true := fun i => cDiv_of (n := 290) (by omega) (by show ((gd o u : Nat) : Int).natAbs < _; have : u.natAbs < 2 ^ 290 := bu; omega) (by decide)
  have nu : ¬ u < 0 := by omega
  have hd : ∀ i : Int, dvI i ((gd o u : Nat) : Int) = i / ((gd o u : Nat) : Int) := fun i => dvI_pos (by omega)
  have eg : Nat.gcd o.natAbs u.natAbs = gd o u := rfl
  rw [eg] at e
  simp [F__law_lowest, fnF_eq, g__law_lowest, r0, nu, abs_eq, e, hc, hd, pairD, lowP]
theorem lowest_ok {o u : Int} (hu : u ≠ 0) (bo : Bd 290 o) (bu : Bd 290 u) (cs : List Cell) : F__law_lowest 2 [.d (.int o), .d (.int u)] cs = .ok (.d (pairD (low o u))) cs := by
  unfold low
  by_cases h : u < 0
  · rw [if_pos h]
    have e := lowest_pos 0 (o := -o) (u := -u) (by omega) (by show (-o).natAbs < _; rw [Int.natAbs_neg]; exact bo) (by show (-u).natAbs < _; rw [Int.natAbs_neg]; exact bu) cs
    have e2 : F__law_lowest 2 = fnF 3 (g__law_lowest (F__law_lowest 1)) := rfl
    rw [e2]
    simp [fnF_eq, g__law_lowest, r0, h, e]
  · rw [if_neg h]
    exact lowest_pos 1 (by omega) bo bu cs
/-! ### shares -/
def shareD (p : Int × Int) : D := .ins 2 [("over", .int p.1), ("under", .int p.2)]
theorem isint_int (i : Int) (cs : List Cell) : F_is_integer [.d (.int i)] cs = .ok (.d (.bl true)) cs := by
  simp [F_is_integer, fnF_eq, g_is_integer, r0]
theorem share_init {o u : Int} (hu : u ≠ 0) (bo : Bd 290 o) (bu : Bd 290 u) (cs : List Cell) : F_Share___init__ [.rf cs.length, .d (.int o), .d (.int u)] (cs ++ [.ins 2 []]) = .ok (.d .non) (cs ++ [.ins 2 [("over", .int (low o u).1), ("under", .int (low o u).2)]]) := by
  have hg := gd_pos (o := o) (u := u) hu
  have hg2 := gd_le (o := o) (u := u) hu
  have hb : u.natAbs < 2 ^ 290 := bu
  have hc : ∀ i : Int, cDiv i ((gd o u : Nat) : Int) = true := fun i => cDiv_of (n := 290) (by omega) (by show ((gd o u : Nat) : Int).natAbs < _; omega) (by decide)
  have hcn : ∀ i : Int, cDiv i (-((gd o u : Nat) : Int)) = true := fun i => cDiv_of (n := 290) (by omega) (by show (-((gd o u : Nat) : Int)).natAbs < _; omega) (by decide)
  have hd : ∀ i : Int, dvI i ((gd o u : Nat) : Int) = i / ((gd o u : Nat) : Int) := fun i => dvI_pos (by omega)
  have hdn : ∀ i : Int, dvI i (-((gd o u : Nat) : Int)) = (-i) / ((gd o u : Nat) : Int) := fun i => by
    rw [dvI_fdiv]
    have := Int.neg_fdiv_neg (a := -i) (b := ((gd o u : Nat) : Int))
    rw [Int.neg_neg] at this
    rw [this, Int.fdiv_eq_ediv_of_nonneg _ (by omega)]
  have eg : Nat.gcd o.natAbs u.natAbs = gd o u := rfl
  by_cases h : u < 0
  · have e1 : gd (-o) (-u) = gd o u := by unfold gd; rw [Int.natAbs_neg, Int.natAbs_neg]
    simp [F_Share___init__, fnF_eq, g_Share___init__, r0, isint_int, hu, eg, h, hcn, hdn, low, lowP, e1, putD, nq_over_under]
  · simp [F_Share___init__, fnF_eq, g_Share___init__, r0, isint_int, hu, eg, h, hc, hd, low, lowP, putD, nq_over_under]
theorem share_make {o u : Int} (hu : u ≠ 0) (bo : Bd 290 o) (bu : Bd 290 u) (cs : List Cell) (r : List (Option Val)) : outI cs.length 2 r (F_Share___init__ [.rf cs.length, .d (.int o), .d (.int u)] (cs ++ [.ins 2 []])) = .ok (.d (shareD (low o u))) ⟨r, cs⟩ := by
  rw [share_init hu bo bu]
  simp [shareD]
theorem lk_over (a b : D) : List.lookup ("over" : Str) [(("over" : Str), a), ("under", b)] = some a := lookup_hit
theorem lk_under (a b : D) : List.lookup ("under" : Str) [(("over" : Str), a), ("under", b)] = some b := by rw [lookup_miss ne_under_over]; exact lookup_hit
theorem is_share_ok (p : Int × Int) (cs : List Cell) : F__law_is_share [.d (shareD p), .d (pairD p)] cs = .ok (.d (.bl true)) cs := by
  have e : eqO (.d (.tup [.int p.1, .int p.2])) (.d (.tup [.int p.1, .int p.2])) cs = some (.d (.bl true)) := by
    rw [eqO_data rfl rfl]
    simp [D.eqv, eqvL]
  simp [F__law_is_share, fnF_eq, g__law_is_share, r0, shareD, pairD, lk_over, lk_under, forF_cons, b__law_is_share_1, e]
/-! ### pairs -/
structure Pr (p : Int × Int) : Prop where
  a : Bd 120 p.1
  b : Bd 120 p.2
  pos : 0 < p.2
theorem div_le (o : Int) (n : Nat) : (o / (n : Int)).natAbs ≤ o.natAbs := Int.natAbs_ediv_le_natAbs o n
theorem lowP_pr {o u : Int} (hu : 0 < u) (bo : Bd 120 o) (bu : Bd 120 u) : Pr (lowP o u) := by
  have hg := gd_pos (o := o) (u := u) (by omega)
  have hg2 := gd_le (o := o) (u := u) (by omega)
  refine ⟨Nat.lt_of_le_of_lt (div_le _ _) bo, Nat.lt_of_le_of_lt (div_le _ _) bu, ?_⟩
  show 0 < u / ((gd o u : Nat) : Int)
  have : (1 : Int) ≤ u / ((gd o u : Nat) : Int) := by
    rw [Int.le_ediv_iff_mul_le (by omega)]
    omega
  omega
theorem low_pr {o u : Int} (hu : u ≠ 0) (bo : Bd 120 o) (bu : Bd 120 u) : Pr (low o u) := by
  unfold low
  split
  · exact lowP_pr (by omega) (by show (-o).natAbs < _; rw [Int.natAbs_neg]; exact bo) (by show (-u).natAbs < _; rw [Int.natAbs_neg]; exact bu)
  · exact lowP_pr (by omega) bo bu
theorem Bd.mul {a b : Int} {m n : Nat} (h : Bd m a) (k : Bd n b) : Bd (m + n) (a * b) := by
  show (a * b).natAbs < _
  rw [Int.natAbs_mul, Nat.pow_add]
  exact Nat.mul_lt_mul_of_lt_of_le h (Nat.le_of_lt k) (Nat.pow_pos (by decide))
theorem Bd.add {a b : Int} {n : Nat} (h : Bd n a) (k : Bd n b) : Bd (n + 1) (a + b) := by
  show (a + b).natAbs < _
  have h' : a.natAbs < 2 ^ n := h
  have k' : b.natAbs < 2 ^ n := k
  rw [Nat.pow_succ]
  omega
theorem Bd.neg {a : Int} {n : Nat} (h : Bd n a) : Bd n (-a) := by show (-a).natAbs < _; rw [Int.natAbs_neg]; exact h
theorem Bd.mono {a : Int} {m n : Nat} (h : Bd m a) (hn : m ≤ n) : Bd n a := Nat.lt_of_lt_of_le h (Nat.pow_le_pow_right (by decide) hn)
theorem cMul_bd {a b : Int} (h : Bd 120 a) (k : Bd 120 b) : cMul a b = true := cMul_of h k (by decide)
theorem sum_ok {p q : Int × Int} (hp : Pr p) (hq : Pr q) (cs : List Cell) : F__law_sum [.d (pairD p), .d (pairD q)] cs = .ok (.d (pairD (low (p.1 * q.2 + q.1 * p.2) (p.2 * q.2)))) cs := by
  have hu : p.2 * q.2 ≠ 0 := Int.ne_of_gt (Int.mul_pos hp.pos hq.pos)
  have e := lowest_ok hu ((Bd.add (hp.a.mul hq.b) (hq.a.mul hp.b)).mono (by decide)) ((hp.b.mul hq.b).mono (by decide)) cs
  simp [F__law_sum, fnF_eq, g__law_sum, r0, pairD, cMul_bd hp.a hq.b, cMul_bd hq.a hp.b, cMul_bd hp.b hq.b]
  rw [pairD] at e
  simp [e]
theorem add_ok {p q : Int × Int} (hp : Pr p) (hq : Pr q) (cs : List Cell) : F_Share___add__ [.d (shareD p), .d (shareD q)] cs = .ok (.d (shareD (low (p.1 * q.2 + q.1 * p.2) (p.2 * q.2)))) cs := by
  have hu : p.2 * q.2 ≠ 0 := Int.ne_of_gt (Int.mul_pos hp.pos hq.pos)
  have e := fun r => share_make hu ((Bd.add (hp.a.mul hq.b) (hq.a.mul hp.b)).mono (by decide)) ((hp.b.mul hq.b).mono (by decide)) cs r
  simp only [shareD] at e
  simp [F_Share___add__, fnF_eq, g_Share___add__, r0, shareD, lk_over, lk_under, cMul_bd hp.a hq.b, cMul_bd hq.a hp.b, cMul_bd hp.b hq.b, e]
theorem sub_ok {p q : Int × Int} (hp : Pr p) (hq : Pr q) (cs : List Cell) : F_Share___sub__ [.d (shareD p), .d (shareD q)] cs = .ok (.d (shareD (low (p.1 * q.2 + -q.1 * p.2) (p.2 * q.2)))) cs := by
  have hu : p.2 * q.2 ≠ 0 := Int.ne_of_gt (Int.mul_pos hp.pos hq.pos)
  have e := fun r => share_make hu ((Bd.add (hp.a.mul hq.b) (hq.a.neg.mul hp.b)).mono (by decide)) ((hp.b.mul hq.b).mono (by decide)) cs r
  rw [show p.1 * q.2 + -q.1 * p.2 = p.1 * q.2 - q.1 * p.2 by rw [Int.neg_mul]; rfl] at e ⊢
  simp only [shareD] at e
  simp [F_Share___sub__, fnF_eq, g_Share___sub__, r0, shareD, lk_over, lk_under, cMul_bd hp.a hq.b, cMul_bd hq.a hp.b, cMul_bd hp.b hq.b, e]
theorem mul_ok {p q : Int × Int} (hp : Pr p) (hq : Pr q) (cs : List Cell) : F_Share___mul__ [.d (shareD p), .d (shareD q)] cs = .ok (.d (shareD (low (p.1 * q.1) (p.2 * q.2)))) cs := by
  have hu : p.2 * q.2 ≠ 0 := Int.ne_of_gt (Int.mul_pos hp.pos hq.pos)
  have e := fun r => share_make hu ((hp.a.mul hq.a).mono (by decide)) ((hp.b.mul hq.b).mono (by decide)) cs r
  simp only [shareD] at e
  simp [F_Share___mul__, fnF_eq, g_Share___mul__, r0, shareD, lk_over, lk_under, cMul_bd hp.a hq.a, cMul_bd hp.b hq.b, e]
theorem below_ok {p q : Int × Int} (hp : Pr p) (hq : Pr q) (cs : List Cell) : F_Share_is_below [.d (shareD p), .d (shareD q)] cs = .ok (.d (.bl (decide (p.1 * q.2 < q.1 * p.2)))) cs := by
  simp [F_Share_is_below, fnF_eq, g_Share_is_below, r0, shareD, lk_over, lk_under, cMul_bd hp.a hq.b, cMul_bd hq.a hp.b]
theorem eq_ok (p q : Int × Int) (cs : List Cell) : F_Share___eq__ [.d (shareD p), .d (shareD q)] cs = .ok (.d (.bl (decide (p.1 = q.1) && decide (p.2 = q.2)))) cs := by
  by_cases h : p.1 = q.1 <;> simp [F_Share___eq__, fnF_eq, g_Share___eq__, r0, shareD, lk_over, lk_under, h]
/-! ### like and like -/
def lk : Nat → D → Bool
  | _, .non => true
  | _, .bl _ => true
  | _, .int _ => true
  | _, .str _ => true
  | n + 1, .tup ds => decide (ds.length ≤ 1000) && ds.all (lk n)
  | n + 1, .lst ds => decide (ds.length ≤ 1000) && ds.all (lk n)
  | _, _ => false
theorem like_loop (F : FS) (xs : List D) (v : Val) (cs : List Cell) (hv : ∀ (i : Nat), ixO v (.d (.int i)) cs = xs[i]?.map .d) (hF : ∀ x ∈ xs, F [.d x, .d x] cs = .ok (.d (.bl true)) cs) : ∃ x2, forF (nmG 2) (b__law_like_1 F) (rangeD 0 xs.length) ⟨[some v, some v, none], cs⟩ = .nx ⟨[some v, some v, x2], cs⟩ := by
  let P : List D → S → Prop := fun r s => (∀ d ∈ r, ∃ i : Nat, d = .int i ∧ i < xs.length) ∧ ∃ x2, s = ⟨[some v, some v, x2], cs⟩
  have loop := forF_inv (g := nmG 2) (b := b__law_like_1 F) P (fun d r s ⟨hr, x2, e⟩ => ?_) (rangeD 0 xs.length) ⟨[some v, some v, none], cs⟩ ⟨fun d hd => by
    obtain ⟨z, e, a, b⟩ := ints_range 0 xs.length d hd
    exact ⟨z.toNat, by rw [e]; congr 1; omega, by omega⟩, none, rfl⟩
  · obtain ⟨s', e', _, x2, rfl⟩ := loop
    exact ⟨x2, e'⟩
  · subst e
    obtain ⟨i, rfl, hi⟩ := hr d List.mem_cons_self
    have e2 := hv i
    rw [List.getElem?_eq_getElem hi] at e2
    have e3 := hF xs[i] (List.getElem_mem hi)
    refine ⟨⟨[some v, some v, some (.d (.int i))], cs⟩, ⟨[some v, some v, some (.d (.int i))], cs⟩, rfl, .inl (by simp [b__law_like_1, e2, e3]), fun d hd => hr d (List.mem_cons_of_mem _ hd), _, rfl⟩
theorem like_refl : ∀ (n : Nat) (d : D) (cs : List Cell), lk n d = true → F__law_like (n + 1) [.d d, .d d] cs = .ok (.d (.bl true)) cs := by
  intro n
  have e2 : ∀ n, F__law_like (n + 1) = fnF 3 (g__law_like (F__law_like n)) := fun _ => rfl
  induction n with
  | zero =>
    intro d cs h
    cases d <;> first | (simp [lk] at h; done) | (rw [e2]; simp [fnF_eq, g__law_like, r0])
  | succ n ih =>
    intro d cs h
    cases d with
    | tup ds =>
      simp [lk] at h
      obtain ⟨x2, el⟩ := like_loop (F__law_like (n + 1)) ds (.d (.tup ds)) cs (fun i => by simp) (fun x hx => ih x cs (h.2 x hx))
      have hok : okR (ds.length : Int) = true := okR_of (by omega) (by omega)
      rw [e2]
      simp [fnF_eq, g__law_like, r0, hok, el]
    | lst ds =>
      simp [lk] at h
      obtain ⟨x2, el⟩ := like_loop (F__law_like (n + 1)) ds (.d (.lst ds)) cs (fun i => by simp) (fun x hx => ih x cs (h.2 x hx))
      have hok : okR (ds.length : Int) = true := okR_of (by omega) (by omega)
      rw [e2]
      simp [fnF_eq, g__law_like, r0, hok, el]
    | _ => first | (simp [lk] at h; done) | (rw [e2]; simp [fnF_eq, g__law_like, r0])
theorem neg_pr {q : Int × Int} (h : Pr q) : Pr (-q.1, q.2) := ⟨h.a.neg, h.b, h.pos⟩
theorem meth_ok {p q : Int × Int} (hp : Pr p) (hq : Pr q) (r : List (Option Val)) (cs : List Cell) : methF [(2, F_Share_is_below)] ("is_below" : Str) 1 (fun st => .ok (.d (shareD p)) st) (fun st => .ok [.d (shareD q)] st) ⟨r, cs⟩ = .ok (.d (.bl (decide (p.1 * q.2 < q.1 * p.2)))) ⟨r, cs⟩ := by
  have e := below_ok hp hq cs
  simp only [shareD] at e
  have hn : List.lookup ("is_below" : Str) [(("over" : Str), D.int p.1), ("under", .int p.2)] = none := by rw [lookup_miss (by decide), lookup_miss (by decide)]; rfl
  simp [shareD, hn, e]
theorem pair_ok {p q : Int × Int} (hp : Pr p) (hq : Pr q) (cs : List Cell) : F__law_pair_right [.d (pairD p), .d (pairD q), .d (shareD p), .d (shareD q)] cs = .ok (.d (.bl true)) cs := by
  have e1 := add_ok hp hq cs
  have e2 := sum_ok hp hq cs
  have e3 := is_share_ok (low (p.1 * q.2 + q.1 * p.2) (p.2 * q.2)) cs
  have e4 := sub_ok hp hq cs
  have e5 := sum_ok hp (neg_pr hq) cs
  have e6 := is_share_ok (low (p.1 * q.2 + -q.1 * p.2) (p.2 * q.2)) cs
  have e7 := mul_ok hp hq cs
  have hu : p.2 * q.2 ≠ 0 := Int.ne_of_gt (Int.mul_pos hp.pos hq.pos)
  have e8 := lowest_ok hu ((hp.a.mul hq.a).mono (by decide)) ((hp.b.mul hq.b).mono (by decide)) cs
  have e9 := is_share_ok (low (p.1 * q.1) (p.2 * q.2)) cs
  have e10 := eq_ok p q cs
  have e11 := below_ok hp hq cs
  have e12 : eqO (.d (pairD p)) (.d (pairD q)) cs = some (.d (.bl (decide (p.1 = q.1) && decide (p.2 = q.2)))) := by
    unfold pairD
    rw [eqO_data rfl rfl]
    simp [D.eqv, eqvL]
    rfl
  have e13 : neO (.d (pairD p)) (.d (pairD q)) cs = some (.d (.bl (!(decide (p.1 = q.1) && decide (p.2 = q.2))))) := by
    unfold pairD
    rw [neO_data rfl rfl]
    simp [D.eqv, eqvL]
    rfl
  have e14 := fun a b c : Bool => like_refl 3 (.lst [.bl a, .bl b, .bl c]) cs (by simp [lk])
  have hn : List.lookup ("is_below" : Str) [(("over" : Str), D.int p.1), ("under", .int p.2)] = none := by rw [lookup_miss (by decide), lookup_miss (by decide)]; rfl
  have x1 : ∀ r, eqXO IsL 2 F_Share___eq__ eqO (.d (shareD p)) (.d (shareD q)) ⟨r, cs⟩ = .ok (.d (.bl (decide (p.1 = q.1) && decide (p.2 = q.2)))) ⟨r, cs⟩ := fun r => by
    rw [eqXO_own rfl rfl rfl, e10]; rfl
  have x2 : ∀ r, neXO IsL 2 F_Share___eq__ neO (.d (shareD p)) (.d (shareD q)) ⟨r, cs⟩ = .ok (.d (.bl (!(decide (p.1 = q.1) && decide (p.2 = q.2))))) ⟨r, cs⟩ := fun r => by
    rw [neXO_own rfl rfl rfl, e10]; rfl
  have i1 : ∀ p : Int × Int, isInsC 2 (.d (shareD p)) cs = true := fun _ => rfl
  have i2 : ∀ p : Int × Int, insC (.d (shareD p)) cs = some (2, [(("over" : Str), D.int p.1), (("under" : Str), D.int p.2)]) := fun _ => rfl
  have i3 : ∀ (p : Int × Int) (i : Int), ixO (.d (pairD p)) (.d (.int i)) cs = (atI [D.int p.1, .int p.2] i).map .d := fun _ _ => rfl
  have i4 : ∀ a b : Int, D.tup [.int a, .int b] = pairD (a, b) := fun _ _ => rfl
  simp [F__law_pair_right, fnF_eq, g__law_pair_right, r0, e1, e2, e3, e4, e5, e6, e7, e8, e9, e11, e12, e13, hn, x1, x2, i1, i2, i3, i4, cMul_bd hp.a hq.a, cMul_bd hp.b hq.b, cMul_bd hp.a hq.b, cMul_bd hq.a hp.b, e14]
/-! ### texts -/
def txt (p : Int × Int) : Str := ("Share(" : Str) ++ (toString p.1 : Str) ++ (", " : Str) ++ (toString p.2 : Str) ++ (")" : Str)
theorem str_len (a b : Str) : (a ++ b).length = a.length + b.length := by
  show (a.cps ++ b.cps).size = _
  rw [Array.size_append]; rfl
theorem int_len {i : Int} (h : Bd 120 i) : (Str.ofString i.repr).length ≤ 200 := by
  show (Str.ofString (toString i)).length ≤ 200
  have h1 : i.natAbs.log2 < 130 := by
    by_cases z : i.natAbs = 0
    · rw [z]; decide
    · have := (Nat.log2_lt z).mpr h
      omega
  have := int_text_length_le (k := 130) (by decide) h1
  rw [ofString_length]
  omega
theorem small_bd {i : Int} (h : Bd 120 i) : smallI i = true := smallI_of h (by decide)
theorem len1 : (Str.ofString "Share(").length = 6 := by decide
theorem len2 : (Str.ofString ", ").length = 2 := by decide
theorem len3 : (Str.ofString ")").length = 1 := by decide
theorem repr_ok {p : Int × Int} (h : Pr p) (cs : List Cell) : F_Share___repr__ [.d (shareD p)] cs = .ok (.d (.str (txt p))) cs := by
  have a := int_len h.a
  have b := int_len h.b
  have z : ∀ n, n ≤ 1000 → sz n = true := fun n hn => sz_of (by omega)
  simp [F_Share___repr__, fnF_eq, g_Share___repr__, r0, shareD, lk_over, lk_under, small_bd h.a, small_bd h.b, Str.empty_append, str_len, len1, len2, len3]
  rw [z _ (by omega), z _ (by omega), z _ (by omega), z _ (by omega)]
  simp [txt]
/-! ### values that are no numbers -/
/-- like itself -/
def LK (n : Nat) (d : D) : Prop := ∀ cs, F__law_like (n + 1) [.d d, .d d] cs = .ok (.d (.bl true)) cs
theorem LK.of {n : Nat} {d : D} (h : lk n d = true) : LK n d := fun cs => like_refl n d cs h
theorem LK.share (n : Nat) (p : Int × Int) : LK n (shareD p) := fun cs => by
  have e2 : F__law_like (n + 1) = fnF 3 (g__law_like (F__law_like n)) := rfl
  have x1 : ∀ r, eqXO IsL 2 F_Share___eq__ eqO (.d (.ins 2 [("over", .int p.1), ("under", .int p.2)])) (.d (.ins 2 [("over", .int p.1), ("under", .int p.2)])) ⟨r, cs⟩ = .ok (.d (.bl true)) ⟨r, cs⟩ := fun r => by
    rw [eqXO_own rfl rfl rfl]
    have := eq_ok p p cs
    simp only [shareD] at this
    rw [this]; simp
  rw [e2]
  simp [fnF_eq, g__law_like, r0, shareD, x1]
theorem LK.lst {n : Nat} {ds : List D} (hl : ds.length ≤ 1000) (h : ∀ d ∈ ds, LK n d) : LK (n + 1) (.lst ds) := fun cs => by
  obtain ⟨x2, el⟩ := like_loop (F__law_like (n + 1)) ds (.d (.lst ds)) cs (fun i => by simp) (fun x hx => h x hx cs)
  have hok : okR (ds.length : Int) = true := okR_of (by omega) (by omega)
  have e2 : F__law_like (n + 1 + 1) = fnF 3 (g__law_like (F__law_like (n + 1))) := rfl
  rw [e2]
  simp [fnF_eq, g__law_like, r0, hok, el]
structure NoInt (d : D) : Prop where
  no : ∀ cs, F_is_integer [.d d] cs = .ok (.d (.bl false)) cs
  like : LK 2 d
theorem NoInt.bl (b : Bool) : NoInt (.bl b) := ⟨fun cs => by simp [F_is_integer, fnF_eq, g_is_integer, r0], .of rfl⟩
theorem NoInt.non : NoInt .non := ⟨fun cs => by simp [F_is_integer, fnF_eq, g_is_integer, r0], .of rfl⟩
theorem NoInt.str (x : Str) : NoInt (.str x) := ⟨fun cs => by simp [F_is_integer, fnF_eq, g_is_integer, r0], .of rfl⟩
theorem NoInt.tup (i : Int) : NoInt (.tup [.int i]) := ⟨fun cs => by simp [F_is_integer, fnF_eq, g_is_integer, r0], .of rfl⟩
theorem NoInt.lst (i : Int) : NoInt (.lst [.int i]) := ⟨fun cs => by simp [F_is_integer, fnF_eq, g_is_integer, r0], .of rfl⟩
theorem NoInt.share (p : Int × Int) : NoInt (shareD p) := ⟨fun cs => by simp [F_is_integer, fnF_eq, g_is_integer, r0, shareD], .share 2 p⟩
theorem bad_one {w m : D} (h : NoInt w) (cs : List Cell) : F_Share___init__ [.rf cs.length, .d w, .d m] (cs ++ [.ins 2 []]) = .exc ⟨1, [("value", w)]⟩ (cs ++ [.ins 2 []]) := by
  simp [F_Share___init__, fnF_eq, g_Share___init__, r0, h.no]
theorem bad_two {i : Int} {m : D} (h : NoInt m) (cs : List Cell) : F_Share___init__ [.rf cs.length, .d (.int i), .d m] (cs ++ [.ins 2 []]) = .exc ⟨1, [("value", m)]⟩ (cs ++ [.ins 2 []]) := by
  simp [F_Share___init__, fnF_eq, g_Share___init__, r0, h.no, isint_int]
theorem bad_zero (i : Int) (cs : List Cell) : F_Share___init__ [.rf cs.length, .d (.int i), .d (.int 0)] (cs ++ [.ins 2 []]) = .exc ⟨1, [("value", .int 0)]⟩ (cs ++ [.ins 2 []]) := by
  simp [F_Share___init__, fnF_eq, g_Share___init__, r0, isint_int]
theorem told_of {w m x : D} {cs : List Cell} (h : F_Share___init__ [.rf cs.length, .d w, .d m] (cs ++ [.ins 2 []]) = .exc ⟨1, [("value", x)]⟩ (cs ++ [.ins 2 []])) : F__law_told [.d w, .d m] cs = .ok (.d (.lst [.str "number", x])) cs := by
  simp [F__law_told, fnF_eq, g__law_told, r0, h, lookup_hit]
theorem like_told {x : D} (h : LK 2 x) (cs : List Cell) : F__law_like 4 [.d (.lst [.str "number", x]), .d (.lst [.str "number", x])] cs = .ok (.d (.bl true)) cs :=
  LK.lst (n := 2) (by simp) (fun d hd => by
    simp at hd
    rcases hd with rfl | rfl
    · exact .of rfl
    · exact h) cs
theorem whole_told {w : D} (h : NoInt w) (cs : List Cell) : F__law_whole_told [.d w] cs = .ok (.d (.lst [.str "number", w])) cs := by
  have e : F_Share_whole [.d (.cl 2), .d w] cs = .exc ⟨1, [("value", w)]⟩ cs := by
    simp [F_Share_whole, fnF_eq, g_Share_whole, r0, h.no]
  simp [F__law_whole_told, fnF_eq, g__law_whole_told, r0, e, lookup_hit]
theorem low_one (i : Int) : low i 1 = (i, 1) := by
  simp [low, lowP, gd]
theorem whole_ok {i : Int} (h : Bd 120 i) (cs : List Cell) : F_Share_whole [.d (.cl 2), .d (.int i)] cs = .ok (.d (shareD (i, 1))) cs := by
  have e := fun r => share_make (o := i) (u := 1) (by decide) (h.mono (by decide)) (by decide) cs r
  rw [low_one] at e
  simp [F_Share_whole, fnF_eq, g_Share_whole, r0, isint_int, e]
/-! ### the law -/
section
variable {dr : List D} {a b : Cell}
theorem take3 (hd : Ints dr) (k : Nat) {m : Int} (hm : 0 < m) : ∃ v : Int, F__law_take [.rf 0, .d (.int m)] [handC dr k, a, b] = .ok (.d (.int v)) [handC dr (k + 1), a, b] ∧ 0 ≤ v ∧ v < m := take_at (cs := [.dead, a, b]) hd (by simp) k hm
theorem integer3 (hd : Ints dr) (k : Nat) : ∃ (v : Int) (k' : Nat), F__law_integer [.rf 0] [handC dr k, a, b] = .ok (.d (.int v)) [handC dr k', a, b] ∧ Bd 120 v := integer_ok (cs := [.dead, a, b]) hd (by simp) k
end
abbrev cells3 (dr : List D) (k : Nat) (ps : List (Int × Int)) : List Cell := [handC dr k, .lst (ps.map pairD), .lst (ps.map shareD)]
theorem step1 {dr : List D} (hd : Ints dr) (k : Nat) (ps : List (Int × Int)) (hl : ps.length ≤ 3) (v0 : Val) (d : D) (x5 x6 x7 x8 x9 x10 x11 x12 : Option Val) :
    ∃ (o u : Int) (k' : Nat) (p : Int × Int), Pr p ∧ b_law_1 ⟨[some v0, some (.rf 0), some (.rf 1), some (.rf 2), some (.d d), x5, x6, x7, x8, x9, x10, x11, x12], cells3 dr k ps⟩ =
      .nx ⟨[some v0, some (.rf 0), some (.rf 1), some (.rf 2), some (.d d), some (.d (.int o)), some (.d (.int u)), x7, x8, x9, x10, x11, x12], cells3 dr k' (ps ++ [p])⟩ := by
  obtain ⟨o, k1, e1, b1⟩ := integer3 (a := .lst (ps.map pairD)) (b := .lst (ps.map shareD)) hd k
  obtain ⟨u, k2, e2, b2⟩ := integer3 (a := .lst (ps.map pairD)) (b := .lst (ps.map shareD)) hd k1
  have s1 : sz (ps.length + 1) = true := sz_of (by omega)
  have key : ∀ (u : Int) (hu : u ≠ 0) (bu : Bd 120 u) (k3 : Nat), F__law_lowest 2 [.d (.int o), .d (.int u)] [handC dr k3, .lst (ps.map pairD), .lst (ps.map shareD)] = .ok (.d (pairD (low o u))) [handC dr k3, .lst (ps.map pairD), .lst (ps.map shareD)] ∧
      ∀ r, outI 3 2 r (F_Share___init__ [.rf 3, .d (.int o), .d (.int u)] [handC dr k3, .lst (ps.map pairD ++ [pairD (low o u)]), .lst (ps.map shareD), .ins 2 []]) = .ok (.d (shareD (low o u))) ⟨r, [handC dr k3, .lst (ps.map pairD ++ [pairD (low o u)]), .lst (ps.map shareD)]⟩ := fun u hu bu k3 =>
    ⟨lowest_ok hu (b1.mono (by decide)) (bu.mono (by decide)) _, fun r => share_make hu (b1.mono (by decide)) (bu.mono (by decide)) [handC dr k3, .lst (ps.map pairD ++ [pairD (low o u)]), .lst (ps.map shareD)] r⟩
  by_cases hu : u = 0
  · obtain ⟨v, e3, c1, c2⟩ := take3 (a := .lst (ps.map pairD)) (b := .lst (ps.map shareD)) hd k2 (m := 2) (by decide)
    have hu2 : 1 - 2 * v ≠ 0 := by omega
    have bu2 : Bd 120 (1 - 2 * v) := by show (1 - 2 * v).natAbs < _; omega
    obtain ⟨e4, e5⟩ := key (1 - 2 * v) hu2 bu2 (k2 + 1)
    refine ⟨o, 1 - 2 * v, k2 + 1, low o (1 - 2 * v), low_pr hu2 b1 bu2, ?_⟩
    simp [b_law_1, e1, e2, hu, e3, e4, e5, s1]
  · obtain ⟨e4, e5⟩ := key u hu b2 k2
    refine ⟨o, u, k2, low o u, low_pr hu b1 b2, ?_⟩
    simp [b_law_1, e1, e2, hu, e4, e5, s1]
/-- another value than a share -/
structure Oth (d : D) : Prop where
  eq : ∀ (p : Int × Int) cs, F_Share___eq__ [.d (shareD p), .d d] cs = .ok (.d (.bl false)) cs
  tg : ∃ n, tgD d = some (.ty n) ∧ tyL.contains n = true
theorem Oth.non : Oth .non := ⟨fun p cs => by simp [F_Share___eq__, fnF_eq, g_Share___eq__, r0], _, rfl, rfl⟩
theorem Oth.bl (b : Bool) : Oth (.bl b) := ⟨fun p cs => by simp [F_Share___eq__, fnF_eq, g_Share___eq__, r0], _, rfl, rfl⟩
theorem Oth.int (i : Int) : Oth (.int i) := ⟨fun p cs => by simp [F_Share___eq__, fnF_eq, g_Share___eq__, r0], _, rfl, rfl⟩
theorem Oth.str (x : Str) : Oth (.str x) := ⟨fun p cs => by simp [F_Share___eq__, fnF_eq, g_Share___eq__, r0], _, rfl, rfl⟩
theorem Oth.tup (x : List D) : Oth (.tup x) := ⟨fun p cs => by simp [F_Share___eq__, fnF_eq, g_Share___eq__, r0], _, rfl, rfl⟩
theorem Oth.lst (x : List D) : Oth (.lst x) := ⟨fun p cs => by simp [F_Share___eq__, fnF_eq, g_Share___eq__, r0], _, rfl, rfl⟩
theorem Oth.x1 {d : D} (h : Oth d) (p : Int × Int) (r : List (Option Val)) (cs : List Cell) : eqXO IsL 2 F_Share___eq__ eqO (.d (shareD p)) (.d d) ⟨r, cs⟩ = .ok (.d (.bl false)) ⟨r, cs⟩ := by
  obtain ⟨n, e, hn⟩ := h.tg
  rw [eqXO_own (s := ⟨r, cs⟩) (t := .ty n) rfl (show tgV (.d d) cs = _ from e) hn, h.eq]; rfl
theorem Oth.x2 {d : D} (h : Oth d) (p : Int × Int) (r : List (Option Val)) (cs : List Cell) : neXO IsL 2 F_Share___eq__ neO (.d (shareD p)) (.d d) ⟨r, cs⟩ = .ok (.d (.bl true)) ⟨r, cs⟩ := by
  obtain ⟨n, e, hn⟩ := h.tg
  rw [neXO_own (s := ⟨r, cs⟩) (t := .ty n) rfl (show tgV (.d d) cs = _ from e) hn, h.eq]; rfl
section
variable {dr : List D} {k : Nat} {p q s : Int × Int}
theorem ix3 {α : Type} (f : Int × Int → α) {i : Nat} (hi : i < 3) : ∃ z : Int × Int, z ∈ [p, q, s] ∧ [f p, f q, f s][i]? = some (f z) := by
  match i, hi with
  | 0, _ => exact ⟨p, by simp, rfl⟩
  | 1, _ => exact ⟨q, by simp, rfl⟩
  | 2, _ => exact ⟨s, by simp, rfl⟩
theorem ixp {i : Nat} (hi : i < 3) : ∃ z : Int × Int, z ∈ [p, q, s] ∧ [pairD p, pairD q, pairD s][i]? = some (pairD z) ∧ [shareD p, shareD q, shareD s][i]? = some (shareD z) := by
  match i, hi with
  | 0, _ => exact ⟨p, by simp, rfl, rfl⟩
  | 1, _ => exact ⟨q, by simp, rfl, rfl⟩
  | 2, _ => exact ⟨s, by simp, rfl, rfl⟩
theorem step2 (h : ∀ z ∈ [p, q, s], Pr z) {i j : Nat} (hi : i < 3) (hj : j < 3) (v0 : Val) (x5 x6 x7 x9 x10 x11 x12 : Option Val) :
    b_law_2 ⟨[some v0, some (.rf 0), some (.rf 1), some (.rf 2), some (.d (.int i)), x5, x6, x7, some (.d (.int j)), x9, x10, x11, x12], cells3 dr k [p, q, s]⟩ =
      .nx ⟨[some v0, some (.rf 0), some (.rf 1), some (.rf 2), some (.d (.int i)), x5, x6, x7, some (.d (.int j)), x9, x10, x11, x12], cells3 dr k [p, q, s]⟩ := by
  obtain ⟨z, hz, e1, e2⟩ := ixp (p := p) (q := q) (s := s) hi
  obtain ⟨y, hy, e3, e4⟩ := ixp (p := p) (q := q) (s := s) hj
  have e5 := pair_ok (h z hz) (h y hy) (cells3 dr k [p, q, s])
  simp only [cells3, List.map_cons, List.map_nil] at e5 ⊢
  simp [b_law_2, e1, e2, e3, e4, e5]
theorem step3 {i : Nat} (hi : i < 3) {d : D} (hd : Oth d) (v0 : Val) (x5 x6 x7 x8 x10 x11 x12 : Option Val) :
    b_law_3 ⟨[some v0, some (.rf 0), some (.rf 1), some (.rf 2), some (.d (.int i)), x5, x6, x7, x8, some (.d d), x10, x11, x12], cells3 dr k [p, q, s]⟩ =
      .nx ⟨[some v0, some (.rf 0), some (.rf 1), some (.rf 2), some (.d (.int i)), x5, x6, x7, x8, some (.d d), x10, x11, x12], cells3 dr k [p, q, s]⟩ := by
  obtain ⟨z, hz, e1, e2⟩ := ixp (p := p) (q := q) (s := s) hi
  have e5 := like_refl 3 (.lst [.bl false, .bl true]) (cells3 dr k [p, q, s]) rfl
  simp only [cells3, List.map_cons, List.map_nil] at e5 ⊢
  simp [b_law_3, e2, hd.x1, hd.x2, e5]
theorem step4 (h : ∀ z ∈ [p, q, s], Pr z) {i : Nat} (hi : i < 3) (v0 : Val) (x5 x6 x7 x8 x9 x10 x11 x12 : Option Val) :
    ∃ y7 y8 y9, b_law_4 ⟨[some v0, some (.rf 0), some (.rf 1), some (.rf 2), some (.d (.int i)), x5, x6, x7, x8, x9, x10, x11, x12], cells3 dr k [p, q, s]⟩ =
      .nx ⟨[some v0, some (.rf 0), some (.rf 1), some (.rf 2), some (.d (.int i)), x5, x6, y7, y8, y9, x10, x11, x12], cells3 dr k [p, q, s]⟩ := by
  obtain ⟨z, hz, e1, e2⟩ := ixp (p := p) (q := q) (s := s) hi
  have hp := h z hz
  have a := int_len hp.a
  have b := int_len hp.b
  have e3 := is_share_ok z (cells3 dr k [p, q, s])
  have e4 := repr_ok hp (cells3 dr k [p, q, s])
  have e5 := like_refl 3 (.str (txt z)) (cells3 dr k [p, q, s]) rfl
  have ht : ("Share(" : Str) ++ (toString z.1 : Str) ++ (", " : Str) ++ (toString z.2 : Str) ++ (")" : Str) = txt z := rfl
  have s1 : sz ((Str.ofString "Share(").length + (Str.ofString z.1.repr).length) = true := sz_of (by rw [len1]; omega)
  have hs2 : sz ((Str.ofString "Share(" ++ Str.ofString z.1.repr).length + (Str.ofString ", ").length) = true := sz_of (by rw [str_len, len1, len2]; omega)
  have hs3 : sz ((Str.ofString "Share(" ++ Str.ofString z.1.repr ++ Str.ofString ", ").length + (Str.ofString z.2.repr).length) = true := sz_of (by rw [str_len, str_len, len1, len2]; omega)
  have hs4 : sz ((Str.ofString "Share(" ++ Str.ofString z.1.repr ++ Str.ofString ", " ++ Str.ofString z.2.repr).length + (Str.ofString ")").length) = true := sz_of (by rw [str_len, str_len, str_len, len1, len2, len3]; omega)
  have i3 : ∀ (i : Int) cs, ixO (.d (pairD z)) (.d (.int i)) cs = (atI [D.int z.1, .int z.2] i).map .d := fun _ _ => rfl
  have i1 : ∀ cs, isInsC 2 (.d (shareD z)) cs = true := fun _ => rfl
  have ok3 : okR 3 = true := rfl
  have l2 : ∀ x7 x8 x9, ∃ y8, forF (nmG 8) b_law_2 (rangeD 0 3) ⟨[some v0, some (.rf 0), some (.rf 1), some (.rf 2), some (.d (.int i)), x5, x6, x7, x8, x9, x10, x11, x12], cells3 dr k [p, q, s]⟩ = .nx ⟨[some v0, some (.rf 0), some (.rf 1), some (.rf 2), some (.d (.int i)), x5, x6, x7, y8, x9, x10, x11, x12], cells3 dr k [p, q, s]⟩ := fun x7 x8 x9 => by
    obtain ⟨s', e, _, y8, rfl⟩ := forF_inv (g := nmG 8) (b := b_law_2) (fun r st => (∀ d ∈ r, ∃ z : Int, d = .int z ∧ 0 ≤ z ∧ z < 0 + 3) ∧ ∃ y8, st = ⟨[some v0, some (.rf 0), some (.rf 1), some (.rf 2), some (.d (.int i)), x5, x6, x7, y8, x9, x10, x11, x12], cells3 dr k [p, q, s]⟩)
      (fun d r st ⟨hr, y8, e⟩ => by
        subst e
        obtain ⟨zz, rfl, z0, z1⟩ := hr d List.mem_cons_self
        obtain ⟨j, rfl⟩ : ∃ j : Nat, zz = j := ⟨zz.toNat, by omega⟩
        exact ⟨_, _, rfl, .inl (step2 h hi (by omega) v0 x5 x6 x7 x9 x10 x11 x12), fun d hd => hr d (List.mem_cons_of_mem _ hd), _, rfl⟩) (rangeD 0 3) _ ⟨ints_range 0 3, x8, rfl⟩
    exact ⟨y8, e⟩
  have l3 : ∀ (ds : List D) x7 x8 x9, (∀ d ∈ ds, Oth d) → ∃ y9, forF (nmG 9) b_law_3 ds ⟨[some v0, some (.rf 0), some (.rf 1), some (.rf 2), some (.d (.int i)), x5, x6, x7, x8, x9, x10, x11, x12], cells3 dr k [p, q, s]⟩ = .nx ⟨[some v0, some (.rf 0), some (.rf 1), some (.rf 2), some (.d (.int i)), x5, x6, x7, x8, y9, x10, x11, x12], cells3 dr k [p, q, s]⟩ := fun ds x7 x8 x9 hds => by
    obtain ⟨s', e, _, y8, rfl⟩ := forF_inv (g := nmG 9) (b := b_law_3) (fun r st => (∀ d ∈ r, Oth d) ∧ ∃ y9, st = ⟨[some v0, some (.rf 0), some (.rf 1), some (.rf 2), some (.d (.int i)), x5, x6, x7, x8, y9, x10, x11, x12], cells3 dr k [p, q, s]⟩)
      (fun d r st ⟨hr, y9, e⟩ => by
        subst e
        exact ⟨_, _, rfl, .inl (step3 hi (hr d List.mem_cons_self) v0 x5 x6 x7 x8 x10 x11 x12), fun d hd => hr d (List.mem_cons_of_mem _ hd), _, rfl⟩) ds _ ⟨hds, x9, rfl⟩
    exact ⟨y8, e⟩
  obtain ⟨y8, e6⟩ := l2 (some (.d (.str (txt z)))) x8 x9
  obtain ⟨y9, e7⟩ := l3 [.non, .bl true, .int 0, .int 1, .int z.1, pairD z, .lst [shareD z], .str "1", .str (txt z)] (some (.d (.str (txt z)))) y8 x9 (fun d hd => by
    simp at hd
    rcases hd with rfl | rfl | rfl | rfl | rfl | rfl | rfl | rfl | rfl
    · exact .non
    · exact .bl _
    · exact .int _
    · exact .int _
    · exact .int _
    · exact .tup _
    · exact .lst _
    · exact .str _
    · exact .str _)
  refine ⟨some (.d (.str (txt z))), y8, y9, ?_⟩
  simp only [cells3, List.map_cons, List.map_nil] at e3 e4 e5 e6 e7 ⊢
  have hr : ∀ i : Int, Str.ofString (toString i) = Str.ofString i.repr := fun _ => rfl
  simp only [hr] at ht
  simp [b_law_4, e1, e2, i3, small_bd hp.a, small_bd hp.b, s1, hs2, hs3, hs4, ht, e3, i1, e4, e5, ok3, e6, e7]
end
theorem wrong_at (p : Int × Int) {v : Int} (h0 : 0 ≤ v) (h1 : v < 7) : ∃ w : D, NoInt w ∧ atI [D.bl true, .non, .str "1", .tup [.int 1], .lst [.int 1], .bl false, shareD p] v = some w := by
  obtain ⟨j, rfl⟩ : ∃ j : Nat, v = j := ⟨v.toNat, by omega⟩
  rw [atI_nat']
  have hj : j < 7 := by omega
  match j, hj with
  | 0, _ => exact ⟨_, .bl true, rfl⟩
  | 1, _ => exact ⟨_, .non, rfl⟩
  | 2, _ => exact ⟨_, .str _, rfl⟩
  | 3, _ => exact ⟨_, .tup 1, rfl⟩
  | 4, _ => exact ⟨_, .lst 1, rfl⟩
  | 5, _ => exact ⟨_, .bl false, rfl⟩
  | 6, _ => exact ⟨_, .share p, rfl⟩
theorem more_at {v : Int} (h0 : 0 ≤ v) (h1 : v < 5) : ∃ w : D, NoInt w ∧ atI [D.bl true, .non, .str "2", .tup [.int 2], .bl false] v = some w := by
  obtain ⟨j, rfl⟩ : ∃ j : Nat, v = j := ⟨v.toNat, by omega⟩
  rw [atI_nat']
  have hj : j < 5 := by omega
  match j, hj with
  | 0, _ => exact ⟨_, .bl true, rfl⟩
  | 1, _ => exact ⟨_, .non, rfl⟩
  | 2, _ => exact ⟨_, .str _, rfl⟩
  | 3, _ => exact ⟨_, .tup 2, rfl⟩
  | 4, _ => exact ⟨_, .bl false, rfl⟩
theorem loop4 {dr : List D} {k : Nat} {p q s : Int × Int} (h : ∀ z ∈ [p, q, s], Pr z) (v0 : Val) (x4 x5 x6 x7 x8 x9 : Option Val) :
    ∃ y4 y7 y8 y9, forF (nmG 4) b_law_4 (rangeD 0 3) ⟨[some v0, some (.rf 0), some (.rf 1), some (.rf 2), x4, x5, x6, x7, x8, x9, none, none, none], cells3 dr k [p, q, s]⟩ =
      .nx ⟨[some v0, some (.rf 0), some (.rf 1), some (.rf 2), y4, x5, x6, y7, y8, y9, none, none, none], cells3 dr k [p, q, s]⟩ := by
  obtain ⟨s', e, _, y4, y7, y8, y9, rfl⟩ := forF_inv (g := nmG 4) (b := b_law_4) (fun r st => (∀ d ∈ r, ∃ z : Int, d = .int z ∧ 0 ≤ z ∧ z < 0 + 3) ∧ ∃ y4 y7 y8 y9, st = ⟨[some v0, some (.rf 0), some (.rf 1), some (.rf 2), y4, x5, x6, y7, y8, y9, none, none, none], cells3 dr k [p, q, s]⟩)
    (fun d r st ⟨hr, y4, y7, y8, y9, e⟩ => by
      subst e
      obtain ⟨zz, rfl, z0, z1⟩ := hr d List.mem_cons_self
      obtain ⟨j, rfl⟩ : ∃ j : Nat, zz = j := ⟨zz.toNat, by omega⟩
      obtain ⟨w7, w8, w9, e⟩ := step4 (dr := dr) (k := k) h (i := j) (by omega) v0 x5 x6 y7 y8 y9 none none none
      exact ⟨_, _, rfl, .inl e, fun d hd => hr d (List.mem_cons_of_mem _ hd), _, _, _, _, rfl⟩) (rangeD 0 3) _ ⟨ints_range 0 3, x4, x7, x8, x9, rfl⟩
  exact ⟨y4, y7, y8, y9, e⟩
theorem law_true (ns : List Int) (hn : ns.length ≤ 63) (_ : ∀ z ∈ ns, PySem.Builtin.Int.intBits z ≤ 1048576) : F_law [.d (.scr (ns.map D.int))] [] = .ok (.d (.bl true)) [] := by
  obtain ⟨dr, e0, hd⟩ := draws_ok ns hn 200 (by decide) (by decide) []
  obtain ⟨o1, u1, k1, p, hp, e1⟩ := step1 hd 0 [] (by decide) (.d (.scr (ns.map D.int))) (.int 0) none none none none none none none none
  obtain ⟨o2, u2, k2, q, hq, e2⟩ := step1 hd k1 [p] (by simp) (.d (.scr (ns.map D.int))) (.int 1) (some (.d (.int o1))) (some (.d (.int u1))) none none none none none none
  obtain ⟨o3, u3, k3, s, hs, e3⟩ := step1 hd k2 [p, q] (by simp) (.d (.scr (ns.map D.int))) (.int 2) (some (.d (.int o2))) (some (.d (.int u2))) none none none none none none
  have hz : ∀ z ∈ [p, q, s], Pr z := fun z h => by
    simp at h
    rcases h with rfl | rfl | rfl <;> assumption
  obtain ⟨y4, y7, y8, y9, e4⟩ := loop4 (dr := dr) (k := k3) hz (.d (.scr (ns.map D.int))) (some (.d (.int 2))) (some (.d (.int o3))) (some (.d (.int u3))) none none none
  obtain ⟨n, k4, e5, bn⟩ := integer3 (a := .lst ([p, q, s].map pairD)) (b := .lst ([p, q, s].map shareD)) hd k3
  have e6 := whole_ok bn (cells3 dr k4 [p, q, s])
  have e7 := is_share_ok (n, 1) (cells3 dr k4 [p, q, s])
  have e8 := fun r => share_make (o := 3) (u := 2) (by decide) (by decide) (by decide) (cells3 dr k4 [p, q, s]) r
  have l32 : low 3 2 = (3, 2) := by decide
  rw [l32] at e8
  simp only [cells3, List.map_cons, List.map_nil, List.cons_append, List.nil_append, List.length_cons, List.length_nil, Nat.zero_add, Nat.reduceAdd] at e8
  have e9 := is_share_ok (3, 2) (cells3 dr k4 [p, q, s])
  obtain ⟨v1, f1, a1, b1⟩ := take3 (a := .lst ([p, q, s].map pairD)) (b := .lst ([p, q, s].map shareD)) hd k4 (m := 7) (by decide)
  obtain ⟨w, hw, ew⟩ := wrong_at p a1 b1
  obtain ⟨v2, f2, a2, b2⟩ := take3 (a := .lst ([p, q, s].map pairD)) (b := .lst ([p, q, s].map shareD)) hd (k4 + 1) (m := 5) (by decide)
  obtain ⟨m, hm, em⟩ := more_at a2 b2
  have g1 := told_of (bad_one (m := m) hw (cells3 dr (k4 + 1 + 1) [p, q, s]))
  have g2 := told_of (bad_two (i := n) hm (cells3 dr (k4 + 1 + 1) [p, q, s]))
  have g3 := told_of (bad_one (m := .int 0) hw (cells3 dr (k4 + 1 + 1) [p, q, s]))
  have g4 := told_of (bad_zero n (cells3 dr (k4 + 1 + 1) [p, q, s]))
  have g5 := whole_told hw (cells3 dr (k4 + 1 + 1) [p, q, s])
  have l1 := like_told hw.like (cells3 dr (k4 + 1 + 1) [p, q, s])
  have l2 := like_told hm.like (cells3 dr (k4 + 1 + 1) [p, q, s])
  have l3 := like_told (x := .int 0) (.of rfl) (cells3 dr (k4 + 1 + 1) [p, q, s])
  have ok3 : okR 3 = true := rfl
  have z0 : ([.lst [.lst dr, .int 0], .lst [], .lst []] : List Cell) = cells3 dr 0 [] := rfl
  have loop1 : forF (nmG 4) b_law_1 (rangeD 0 3) ⟨[some (.d (.scr (ns.map D.int))), some (.rf 0), some (.rf 1), some (.rf 2), none, none, none, none, none, none, none, none, none], [.lst [.lst dr, .int 0], .lst [], .lst []]⟩ =
      .nx ⟨[some (.d (.scr (ns.map D.int))), some (.rf 0), some (.rf 1), some (.rf 2), some (.d (.int 2)), some (.d (.int o3)), some (.d (.int u3)), none, none, none, none, none, none], cells3 dr k3 [p, q, s]⟩ := by
    rw [z0, rangeD_succ, forF_cons]
    simp only [nmG_eq, forG_some, List.set_cons_succ, List.set_cons_zero, e1, forK_nx, Int.zero_add, List.nil_append]
    rw [rangeD_succ, forF_cons]
    simp only [nmG_eq, forG_some, List.set_cons_succ, List.set_cons_zero, e2, forK_nx, List.cons_append, List.nil_append]
    rw [rangeD_succ, forF_cons]
    simp only [nmG_eq, forG_some, List.set_cons_succ, List.set_cons_zero]
    show forK _ _ _ (b_law_1 ⟨[_, _, _, _, some (.d (.int 2)), _, _, _, _, _, _, _, _], _⟩) = _
    rw [e3]
    simp
  have i4 : ∀ a b : Int, D.tup [.int a, .int b] = pairD (a, b) := fun _ _ => rfl
  simp only [cells3, List.map_cons, List.map_nil] at loop1 e4 e5 e6 e7 e9 f1 f2 g1 g2 g3 g4 g5 l1 l2 l3
  simp [F_law, fnF_eq, g_law, r0, e0, ok3, loop1, e4, e5, e6, i4, e7, permG, e8, e9, f1, f2, ew, em, g1, g2, g3, g4, g5, l1, l2, l3]
end LW

set_option Elab.async false
set_option linter.all false
set_option maxRecDepth 100000
open PySem PySem.W PyProof.Rows
set_option maxHeartbeats 0 in
theorem PySem.Challenge.cw_fourread_k05_shares_holds : PySem.Challenge.rw_fourread_k05_shares.Holds := by
  w_on; o_law; k_head; (case hw => w_witness2)
  k_fill
  refine FL.end_law (l := PySem.Challenge.rw_fourread_k05_shares) (k := 8) (x := "_law_script") (F := LW.F_law) (st := LW.s_law) (cl := fun K => FL.clOf K LW.NM) rfl rfl ⟨rfl, by decide, by decide⟩ (fun w h Y => PySem.W.kIn_of Y) rfl ?F LW.law_true
  case F =>
    intro w mg h KX G
    obtain ⟨T⟩ := LW.tx_of KX G (by kernel_rfl) (by kernel_rfl) (by kernel_rfl) (by kernel_rfl) (by kernel_rfl) (by kernel_rfl) (by kernel_rfl) (by kernel_rfl) (by kernel_rfl) (by kernel_rfl) (by kernel_rfl) (by kernel_rfl) (by kernel_rfl) (by kernel_rfl) (by kernel_rfl) (by kernel_rfl) (by kernel_rfl) (by kernel_rfl) (by kernel_rfl) (by kernel_rfl) (by kernel_rfl) (by kernel_rfl) (by kernel_rfl) (by kernel_rfl) (by kernel_rfl) (by kernel_rfl) (by kernel_rfl) (by kernel_rfl) (by kernel_rfl) (by kernel_rfl) (by kernel_rfl) (by kernel_rfl) (by kernel_rfl) (by kernel_rfl) (by kernel_rfl) (by kernel_rfl) (by kernel_rfl) (by kernel_rfl) (by kernel_rfl) (by kernel_rfl) (by kernel_rfl) (by kernel_rfl) (by kernel_rfl) (by kernel_rfl) (by kernel_rfl) (by kernel_rfl) (by kernel_rfl) (by kernel_rfl) (by kernel_rfl) (by kernel_rfl) (by kernel_rfl) (by kernel_rfl) (by kernel_rfl) (by kernel_rfl) (by kernel_rfl) (by kernel_rfl) (by kernel_rfl) (by kernel_rfl) (by kernel_rfl) (by kernel_rfl) (by kernel_rfl) (by kernel_rfl) (by kernel_rfl) (by kernel_rfl) (by kernel_rfl) (by kernel_rfl) (by kernel_rfl) (by kernel_rfl) (by kernel_rfl) (by kernel_rfl) (by kernel_rfl) (by kernel_rfl) (by kernel_rfl) (by kernel_rfl) (by kernel_rfl) (by kernel_rfl) (by kernel_rfl) (by kernel_rfl) (by kernel_rfl) (by kernel_rfl) (by kernel_rfl) (by kernel_rfl) (by kernel_rfl) (by kernel_rfl) (by kernel_rfl) (by kernel_rfl) (by kernel_rfl) (by kernel_rfl) (by kernel_rfl) (by kernel_rfl) (by kernel_rfl)
    exact ⟨T.f_law, fun base => LW.ok_law T⟩
