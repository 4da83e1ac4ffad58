import PyProof.Rows.All
import Wide.All
import OpenK.AllK
import Wide.FinOn
import PyProof.EqAt
import PyProof.EqKinds
import PyProof.TupleCall
import HandS.Base
import HandS.Call
import HandS.List
import HandS.Comp
import HandS.Dict
import HandS.Iter
import HandS.Text
import HandS.More
import HandS.Ends
import HandS.Words
import HandS.IsInst
import HandS.Replace
import HandS.RaiseMore
import HandS.Defaults
import HandS.Style
import PySem.Challenge.RW_attachhall_k06_texts_that_are_no_letter
import Lean
import HandS.HeadEnd
import HandS.Head0
import HandS.Head1
import HandS.Head2
import HandS.HeadHook1
import HandS.HeadHook2
set_option Elab.async false
set_option linter.all false
set_option maxRecDepth 100000
set_option maxHeartbeats 2000000
/-! A small value language over the hand layer: data by value, mutable things in a store. -/
namespace AH
open PySem L2

inductive D where
  | non | bl (b : Bool) | int (i : Int) | str (c : List Nat) | tup (xs : List D) | lst (xs : List D) | ref (l : Nat) | raw (v : V) | scr (ns : List Int)
inductive DK where
  | i (n : Int) | s (c : List Nat)
  deriving DecidableEq
def DK.key : DK → Key
  | .i n => .inl n
  | .s c => .inr ⟨c.toArray⟩
theorem DK.key_inj : ∀ {a b : DK}, a.key = b.key → a = b
  | .i n, .i m, h => by
    have e : n = m := Sum.inl.inj h
    rw [e]
  | .s c, .s d, h => by
    have e : (⟨c.toArray⟩ : Str) = ⟨d.toArray⟩ := Sum.inr.inj h
    have e2 : c.toArray = d.toArray := congrArg Str.cps e
    have e3 : c = d := by
      have := congrArg Array.toList e2
      simpa using this
    rw [e3]
  | .i _, .s _, h => nomatch h
  | .s _, .i _, h => nomatch h

inductive MO where
  | lst (xs : List D)
  | dic (lk : Bool) (kvs : List (DK × D))
  | dit (lk : Bool) (kvs : List (List DK × D))
  | ins (c : Nat) (fs : List D)

structure Sto where
  next : Nat
  get : Nat → Option MO
def Sto.set (S : Sto) (l : Nat) (o : MO) : Sto := ⟨S.next, fun k => if k = l then some o else S.get k⟩
def Sto.new (S : Sto) (o : MO) : Sto := ⟨S.next + 1, fun k => if k = S.next then some o else S.get k⟩

structure Wd where
  io : Nat → Option Addr
  S : Sto
  B : Addr → Prop
  H : Hp
def Wd.U (w : Wd) (a : Addr) : Prop := ∃ l, w.io l = some a
def Wd.Ex (w : Wd) (a : Addr) : Prop := w.B a ∨ w.U a
def Wd.withB (w : Wd) (B : Addr → Prop) : Wd := { w with B := B }
def Wd.ban (w : Wd) (p : Addr) : Wd := { w with B := fun a => w.B a ∨ a = p }

structure Gx where
  cm : Nat → Addr
  fl : Nat → List Str

def Kw (K : PySem.W.Frag) (a : Addr) (xs : List V) : Prop :=
  ∃ (o : Obj) (its : Array Value) (n : Nat), K.lookup a = some o ∧ o.cls = .type "list" ∧ o.dict = none ∧ o.data = .seq its n ∧ its.size ≤ sizeLine ∧ Vals xs its.toList

mutual
inductive RV (K : PySem.W.Frag) (w : Wd) : V → D → Prop
  | non : RV K w .non .non
  | bl {b} : RV K w (.bl b) (.bl b)
  | int {i} : RV K w (.int i) (.int i)
  | str {c : List Nat} : RV K w (.str ⟨c.toArray⟩) (.str c)
  | tup {a vs ds} : w.H a = some (.tup vs) → ¬ w.Ex a → RVs K w vs ds → RV K w (.ref a) (.tup ds)
  | lst {a vs ds} : w.H a = some (.lst vs) → ¬ w.Ex a → RVs K w vs ds → RV K w (.ref a) (.lst ds)
  | ref {l a} : w.io l = some a → RV K w (.ref a) (.ref l)
  | raw {v} : RV K w v (.raw v)
  | scr {a ns} : ((∃ o, w.H a = some (.frz o (.lst (ns.map V.int))) ∧ ¬ w.Ex a) ∨ Kw K a (ns.map V.int)) → RV K w (.ref a) (.scr ns)
inductive RVs (K : PySem.W.Frag) (w : Wd) : List V → List D → Prop
  | nil : RVs K w [] []
  | cons {v vs d ds} : RV K w v d → RVs K w vs ds → RVs K w (v :: vs) (d :: ds)
end

/-- data by value stays what it is -/
structure Mv (w w' : Wd) : Prop where
  io : ∀ l a, w.io l = some a → w'.io l = some a
  hp : ∀ a o, w.H a = some o → ¬ w.Ex a → w'.H a = some o ∧ ¬ w'.Ex a
  fz : ∀ a o u, w.H a = some (.frz o u) → w'.H a = some (.frz o u)
theorem Mv.refl (w : Wd) : Mv w w := ⟨fun _ _ h => h, fun _ _ h k => ⟨h, k⟩, fun _ _ _ h => h⟩
theorem Mv.trans {a b c : Wd} (x : Mv a b) (y : Mv b c) : Mv a c := ⟨fun l p h => y.io l p (x.io l p h), fun p o h k => let ⟨h1, k1⟩ := x.hp p o h k; y.hp p o h1 k1, fun p o u h => y.fz p o u (x.fz p o u h)⟩

mutual
theorem RV.mono {K : PySem.W.Frag} {w w' : Wd} (m : Mv w w') : ∀ {v : V} {d : D}, RV K w v d → RV K w' v d
  | _, _, .non => .non
  | _, _, .bl => .bl
  | _, _, .int => .int
  | _, _, .str => .str
  | _, _, .tup h k r => .tup (m.hp _ _ h k).1 (m.hp _ _ h k).2 (RVs.mono m r)
  | _, _, .lst h k r => .lst (m.hp _ _ h k).1 (m.hp _ _ h k).2 (RVs.mono m r)
  | _, _, .ref h => .ref (m.io _ _ h)
  | _, _, .raw => .raw
  | _, _, .scr (.inl ⟨o, h, k⟩) => .scr (.inl ⟨o, (m.hp _ _ h k).1, (m.hp _ _ h k).2⟩)
  | _, _, .scr (.inr h) => .scr (.inr h)
theorem RVs.mono {K : PySem.W.Frag} {w w' : Wd} (m : Mv w w') : ∀ {v : List V} {d : List D}, RVs K w v d → RVs K w' v d
  | _, _, .nil => .nil
  | _, _, .cons r s => .cons (RV.mono m r) (RVs.mono m s)
end

section
variable {K : PySem.W.Frag} {w : Wd}
theorem RVs.length : ∀ {vs : List V} {ds : List D}, RVs K w vs ds → vs.length = ds.length
  | _, _, .nil => rfl
  | _, _, .cons _ s => congrArg (· + 1) (RVs.length s)
theorem RVs.get : ∀ {vs : List V} {ds : List D} {i : Nat} {d : D}, RVs K w vs ds → ds[i]? = some d → ∃ v, vs[i]? = some v ∧ RV K w v d
  | _, _, _, _, .nil, e => by simp at e
  | _, _, 0, _, .cons r _, e => by
    simp at e
    subst e
    exact ⟨_, rfl, r⟩
  | _, _, i + 1, d, .cons _ s, e => by
    obtain ⟨v, h1, h2⟩ := RVs.get (i := i) (d := d) s (by simpa using e)
    exact ⟨v, by simpa using h1, h2⟩
theorem RVs.append : ∀ {vs us : List V} {ds es : List D}, RVs K w vs ds → RVs K w us es → RVs K w (vs ++ us) (ds ++ es)
  | _, _, _, _, .nil, s => s
  | _, _, _, _, .cons r t, s => .cons r (RVs.append t s)
theorem RVs.take : ∀ {vs : List V} {ds : List D} (n : Nat), RVs K w vs ds → RVs K w (vs.take n) (ds.take n)
  | _, _, 0, _ => .nil
  | _, _, _ + 1, .nil => .nil
  | _, _, n + 1, .cons r t => .cons r (RVs.take n t)
theorem RVs.drop : ∀ {vs : List V} {ds : List D} (n : Nat), RVs K w vs ds → RVs K w (vs.drop n) (ds.drop n)
  | _, _, 0, r => r
  | _, _, _ + 1, .nil => .nil
  | _, _, n + 1, .cons _ t => RVs.drop n t
theorem RVs.set {v : V} {d : D} (r : RV K w v d) : ∀ {vs : List V} {ds : List D} (i : Nat), RVs K w vs ds → RVs K w (vs.set i v) (ds.set i d)
  | _, _, _, .nil => .nil
  | _, _, 0, .cons _ t => .cons r t
  | _, _, i + 1, .cons q t => .cons q (RVs.set r i t)
theorem RVs.eraseIdx : ∀ {vs : List V} {ds : List D} (i : Nat), RVs K w vs ds → RVs K w (vs.eraseIdx i) (ds.eraseIdx i)
  | _, _, _, .nil => .nil
  | _, _, 0, .cons _ t => t
  | _, _, i + 1, .cons q t => .cons q (RVs.eraseIdx i t)
theorem RVs.one {v : V} {d : D} (r : RV K w v d) : RVs K w [v] [d] := .cons r .nil
theorem RVs.ints : ∀ {vs : List V} {ns : List Int}, RVs K w vs (ns.map D.int) → vs = ns.map V.int
  | vs, [], h => by cases h; rfl
  | vs, n :: ns, h => by
    cases h with
    | cons r s =>
      cases r
      rw [RVs.ints s]
      rfl
theorem RVs.of_ints : ∀ (ns : List Int), RVs K w (ns.map V.int) (ns.map D.int)
  | [] => .nil
  | n :: ns => .cons .int (RVs.of_ints ns)
theorem RVs.strs : ∀ {vs : List V} {ns : List (List Nat)}, RVs K w vs (ns.map D.str) → vs = (ns.map fun c => (⟨c.toArray⟩ : Str)).map V.str
  | vs, [], h => by cases h; rfl
  | vs, n :: ns, h => by
    cases h with
    | cons r s =>
      cases r
      rw [RVs.strs s]
      rfl
theorem RVs.of_strs : ∀ (ns : List (List Nat)), RVs K w ((ns.map fun c => (⟨c.toArray⟩ : Str)).map V.str) (ns.map D.str)
  | [] => .nil
  | n :: ns => .cons .str (RVs.of_strs ns)
end

/-- pairs by key -/
abbrev RK (K : PySem.W.Frag) (w : Wd) : List (Key × V) → List (DK × D) → Prop := Paired fun p q => p.1 = q.1.key ∧ RV K w p.2 q.2
abbrev RT (K : PySem.W.Frag) (w : Wd) : List (List Key × V) → List (List DK × D) → Prop := Paired fun p q => p.1 = q.1.map DK.key ∧ RV K w p.2 q.2
def RO (K : PySem.W.Frag) (G : Gx) (w : Wd) (a : Addr) : MO → Prop
  | .lst ds => ∃ vs, w.H a = some (.lst vs) ∧ RVs K w vs ds
  | .dic lk kvs => ∃ ks, (match lk with | false => w.H a = some (.dK ks) | true => ∃ od, w.H a = some (.frz od (.dK ks))) ∧ RK K w ks kvs
  | .dit lk kvs => ∃ ks, (match lk with | false => w.H a = some (.dT ks) | true => ∃ od, w.H a = some (.frz od (.dT ks))) ∧ RT K w ks kvs
  | .ins c ds => ∃ dx gs, w.H a = some (.ins (G.cm c) dx gs) ∧ gs.map (·.1) = (G.fl c).take ds.length ∧ ds.length ≤ (G.fl c).length ∧ RVs K w (gs.map (·.2)) ds
theorem RO.mono {K : PySem.W.Frag} {G : Gx} {w w' : Wd} {a : Addr} (m : Mv w w') (e : w'.H a = w.H a) : ∀ {o : MO}, RO K G w a o → RO K G w' a o
  | .lst ds, ⟨vs, h, r⟩ => ⟨vs, by rw [e]; exact h, r.mono m⟩
  | .dic false kvs, ⟨ks, h, r⟩ => ⟨ks, by show w'.H a = _; rw [e]; exact h, L2.Paired.mapP r fun _ _ q => ⟨q.1, q.2.mono m⟩⟩
  | .dic true kvs, ⟨ks, ⟨od, h⟩, r⟩ => ⟨ks, ⟨od, by rw [e]; exact h⟩, L2.Paired.mapP r fun _ _ q => ⟨q.1, q.2.mono m⟩⟩
  | .dit false kvs, ⟨ks, h, r⟩ => ⟨ks, by show w'.H a = _; rw [e]; exact h, L2.Paired.mapP r fun _ _ q => ⟨q.1, q.2.mono m⟩⟩
  | .dit true kvs, ⟨ks, ⟨od, h⟩, r⟩ => ⟨ks, ⟨od, by rw [e]; exact h⟩, L2.Paired.mapP r fun _ _ q => ⟨q.1, q.2.mono m⟩⟩
  | .ins c ds, ⟨dx, gs, h, h1, h2, r⟩ => ⟨dx, gs, by rw [e]; exact h, h1, h2, r.mono m⟩
theorem RO.some {K : PySem.W.Frag} {G : Gx} {w : Wd} {a : Addr} : ∀ {o : MO}, RO K G w a o → ∃ u, w.H a = some u
  | .lst ds, ⟨vs, h, r⟩ => ⟨_, h⟩
  | .dic false kvs, ⟨ks, h, r⟩ => ⟨_, h⟩
  | .dic true kvs, ⟨ks, ⟨od, h⟩, r⟩ => ⟨_, h⟩
  | .dit false kvs, ⟨ks, h, r⟩ => ⟨_, h⟩
  | .dit true kvs, ⟨ks, ⟨od, h⟩, r⟩ => ⟨_, h⟩
  | .ins c ds, ⟨dx, gs, h, h1, h2, r⟩ => ⟨_, h⟩

structure Ok (K : PySem.W.Frag) (G : Gx) (w : Wd) : Prop where
  obj : ∀ l o, w.S.get l = some o → ∃ a, w.io l = some a ∧ RO K G w a o
  inj : ∀ l l' a, w.io l = some a → w.io l' = some a → l = l'
  dom : ∀ l, w.S.get l = none → w.io l = none
  nxt : ∀ l, w.S.next ≤ l → w.S.get l = none
  dis : ∀ a, w.B a → ¬ w.U a
  bh : ∀ a, w.B a → ∃ o, w.H a = some o
theorem Ok.uh {K : PySem.W.Frag} {G : Gx} {w : Wd} (k : Ok K G w) {a : Addr} (h : w.U a) : ∃ o, w.H a = some o := by
  obtain ⟨l, h⟩ := h
  cases e : w.S.get l with
  | none =>
    rw [k.dom l e] at h
    cases h
  | some o =>
    obtain ⟨b, h1, h2⟩ := k.obj l o e
    rw [h] at h1
    cases h1
    exact h2.some
theorem Ok.exh {K : PySem.W.Frag} {G : Gx} {w : Wd} (k : Ok K G w) {a : Addr} (h : w.Ex a) : ∃ o, w.H a = some o := h.elim (k.bh a) k.uh
theorem Ok.fresh {K : PySem.W.Frag} {G : Gx} {w : Wd} (k : Ok K G w) {a : Addr} (h : w.H a = none) : ¬ w.Ex a := fun e => by
  obtain ⟨o, q⟩ := k.exh e
  rw [h] at q
  cases q
/-- B grows less -/
theorem Mv.shrink {w : Wd} {B : Addr → Prop} (h : ∀ a, B a → w.B a) : Mv w (w.withB B) := ⟨fun _ _ e => e, fun a o e k => ⟨e, fun z => k (z.elim (fun b => .inl (h a b)) .inr)⟩, fun _ _ _ h => h⟩
theorem Ok.shrink {K : PySem.W.Frag} {G : Gx} {w : Wd} {B : Addr → Prop} (k : Ok K G w) (h : ∀ a, B a → w.B a) : Ok K G (w.withB B) :=
  ⟨fun l o e => let ⟨a, h1, h2⟩ := k.obj l o e; ⟨a, h1, h2.mono (Mv.shrink h) rfl⟩, k.inj, k.dom, k.nxt, fun a b => k.dis a (h a b), fun a b => k.bh a (h a b)⟩

/-- a step that leaves what is not in the store -/
structure Fr (w w' : Wd) : Prop where
  io : ∀ l a, w.io l = some a → w'.io l = some a
  hp : ∀ a o, w.H a = some o → ¬ w.U a → w'.H a = some o ∧ ¬ w'.U a
  fz : ∀ a o u, w.H a = some (.frz o u) → w'.H a = some (.frz o u)
  bb : w'.B = w.B
theorem Fr.refl (w : Wd) : Fr w w := ⟨fun _ _ h => h, fun _ _ h k => ⟨h, k⟩, fun _ _ _ h => h, rfl⟩
theorem Fr.trans {a b c : Wd} (x : Fr a b) (y : Fr b c) : Fr a c := ⟨fun l p h => y.io l p (x.io l p h), fun p o h k => let ⟨h1, k1⟩ := x.hp p o h k; y.hp p o h1 k1, fun p o u h => y.fz p o u (x.fz p o u h), y.bb.trans x.bb⟩
theorem Fr.mv {w w' : Wd} (f : Fr w w') : Mv w w' := ⟨f.io, fun a o h k => by
  obtain ⟨h1, k1⟩ := f.hp a o h fun z => k (.inr z)
  refine ⟨h1, fun z => z.elim (fun b => ?_) k1⟩
  rw [f.bb] at b
  exact k (.inl b), f.fz⟩
theorem Fr.free {w w' : Wd} (f : Fr w w') (hu : ∀ a, w.U a → ∃ o, w.H a = some o) (hu' : ∀ a, w.H a = none → True) {p : Addr} (h : w'.H p = none) (k : ∀ a, w.U a → ∃ o, w'.H a = some o) : w.H p = none := by
  cases e : w.H p with
  | none => rfl
  | some o =>
    by_cases u : w.U p
    · obtain ⟨o', q⟩ := k p u
      rw [h] at q
      cases q
    · rw [(f.hp p o e u).1] at h
      cases h
theorem Fr.free' {K : PySem.W.Frag} {G : Gx} {w w' : Wd} (f : Fr w w') (k' : Ok K G w') {p : Addr} (h : w'.H p = none) : w.H p = none := by
  cases e : w.H p with
  | none => rfl
  | some o =>
    by_cases u : w.U p
    · obtain ⟨l, q⟩ := u
      obtain ⟨o', q⟩ := k'.uh ⟨l, f.io l p q⟩
      rw [h] at q
      cases q
    · rw [(f.hp p o e u).1] at h
      cases h

/-- a new object that is by value -/
def Wd.add (w : Wd) (p : Addr) (o : HO) : Wd := { w with H := upd w.H p o }
theorem Fr.add {w : Wd} {p : Addr} {o : HO} (h : w.H p = none) : Fr w (w.add p o) := ⟨fun _ _ e => e, fun a u e k => ⟨by
  show upd w.H p o a = some u
  rw [upd_ne (ne_of_none e h)]
  exact e, k⟩, fun a q u e => by
  show upd w.H p o a = some (.frz q u)
  rw [upd_ne (ne_of_none e h)]
  exact e, rfl⟩
theorem Ok.add {K : PySem.W.Frag} {G : Gx} {w : Wd} {p : Addr} {o : HO} (k : Ok K G w) (h : w.H p = none) : Ok K G (w.add p o) where
  obj := fun l u e => by
    obtain ⟨a, h1, h2⟩ := k.obj l u e
    obtain ⟨z, hz⟩ := h2.some
    refine ⟨a, h1, h2.mono (Fr.add h).mv ?_⟩
    show upd w.H p o a = w.H a
    exact upd_ne (ne_of_none hz h)
  inj := k.inj
  dom := k.dom
  nxt := k.nxt
  dis := k.dis
  bh := fun a b => by
    obtain ⟨z, hz⟩ := k.bh a b
    refine ⟨z, ?_⟩
    show upd w.H p o a = _
    rw [upd_ne (ne_of_none hz h)]
    exact hz

/-- the store's object at l is another -/
def Wd.put (w : Wd) (l : Nat) (o : MO) (a : Addr) (u : HO) : Wd := { w with S := w.S.set l o, H := upd w.H a u }
theorem Fr.put {w : Wd} {l : Nat} {a : Addr} {o : MO} {u : HO} (h : w.io l = some a) (nf : ∀ q z, w.H a ≠ some (.frz q z)) : Fr w (w.put l o a u) := ⟨fun _ _ e => e, fun b z e k => ⟨by
  show upd w.H a u b = some z
  rw [upd_ne (fun (q : b = a) => k ⟨l, by rw [q]; exact h⟩)]
  exact e, k⟩, fun b q z e => by
  show upd w.H a u b = some (.frz q z)
  rw [upd_ne (fun (y : b = a) => nf q z (by rw [← y]; exact e))]
  exact e, rfl⟩
theorem Ok.put {K : PySem.W.Frag} {G : Gx} {w : Wd} {l : Nat} {a : Addr} {o0 o : MO} {u : HO} (k : Ok K G w) (h0 : w.S.get l = some o0) (h : w.io l = some a) (nf : ∀ q z, w.H a ≠ some (.frz q z)) (r : RO K G (w.put l o a u) a o) : Ok K G (w.put l o a u) where
  obj := fun l' o' e => by
    have e' : (if l' = l then some o else w.S.get l') = some o' := e
    by_cases q : l' = l
    · rw [if_pos q] at e'
      cases e'
      subst q
      exact ⟨a, h, r⟩
    · rw [if_neg q] at e'
      obtain ⟨b, h1, h2⟩ := k.obj l' o' e'
      refine ⟨b, h1, h2.mono (Fr.put h nf).mv ?_⟩
      show upd w.H a u b = w.H b
      exact upd_ne fun (z : b = a) => q (k.inj l' l b h1 (by rw [z]; exact h))
  inj := k.inj
  dom := fun l' e => by
    have e' : (if l' = l then some o else w.S.get l') = none := e
    by_cases q : l' = l
    · rw [if_pos q] at e'
      cases e'
    · rw [if_neg q] at e'
      exact k.dom l' e'
  nxt := fun l' e => by
    have e1 : w.S.get l' = none := k.nxt l' e
    show (if l' = l then some o else w.S.get l') = none
    rw [if_neg (fun q => by rw [q, h0] at e1; cases e1)]
    exact e1
  dis := k.dis
  bh := fun b hb => by
    obtain ⟨z, hz⟩ := k.bh b hb
    by_cases q : b = a
    · exact ⟨u, by show upd w.H a u b = _; rw [q, upd_same]⟩
    · exact ⟨z, by show upd w.H a u b = _; rw [upd_ne q]; exact hz⟩

/-- a new object in the store, at an address that is new -/
def Wd.born (w : Wd) (o : MO) (p : Addr) (u : HO) : Wd := { w with io := fun l => if l = w.S.next then some p else w.io l, S := w.S.new o, H := upd w.H p u }
theorem Ok.noio {K : PySem.W.Frag} {G : Gx} {w : Wd} (k : Ok K G w) : w.io w.S.next = none := k.dom _ (k.nxt _ (Nat.le_refl _))
theorem Fr.born {K : PySem.W.Frag} {G : Gx} {w : Wd} {o : MO} {p : Addr} {u : HO} (k : Ok K G w) (h : w.H p = none) : Fr w (w.born o p u) := ⟨fun l a e => by
  show (if l = w.S.next then some p else w.io l) = some a
  rw [if_neg (fun q => by rw [q, k.noio] at e; cases e)]
  exact e, fun a z e nu => ⟨by
    show upd w.H p u a = some z
    rw [upd_ne (ne_of_none e h)]
    exact e, fun ⟨l, q⟩ => by
    have q' : (if l = w.S.next then some p else w.io l) = some a := q
    by_cases z : l = w.S.next
    · rw [if_pos z] at q'
      cases q'
      rw [h] at e
      cases e
    · rw [if_neg z] at q'
      exact nu ⟨l, q'⟩⟩, fun a q z e => by
    show upd w.H p u a = some (.frz q z)
    rw [upd_ne (ne_of_none e h)]
    exact e, rfl⟩
theorem Ok.born {K : PySem.W.Frag} {G : Gx} {w : Wd} {o : MO} {p : Addr} {u : HO} (k : Ok K G w) (h : w.H p = none) (r : RO K G (w.born o p u) p o) : Ok K G (w.born o p u) where
  obj := fun l o' e => by
    have e' : (if l = w.S.next then some o else w.S.get l) = some o' := e
    show ∃ a, (if l = w.S.next then some p else w.io l) = some a ∧ _
    by_cases q : l = w.S.next
    · rw [if_pos q] at e' ⊢
      cases e'
      exact ⟨p, rfl, r⟩
    · rw [if_neg q] at e' ⊢
      obtain ⟨a, h1, h2⟩ := k.obj l o' e'
      obtain ⟨z, hz⟩ := h2.some
      refine ⟨a, h1, h2.mono (Fr.born k h).mv ?_⟩
      show upd w.H p u a = w.H a
      exact upd_ne (ne_of_none hz h)
  inj := fun l l' a e e' => by
    have q : (if l = w.S.next then some p else w.io l) = some a := e
    have q' : (if l' = w.S.next then some p else w.io l') = some a := e'
    by_cases z : l = w.S.next <;> by_cases z' : l' = w.S.next
    · rw [z, z']
    · rw [if_pos z] at q
      rw [if_neg z'] at q'
      cases q
      obtain ⟨x, hx⟩ := k.uh ⟨l', q'⟩
      rw [h] at hx
      cases hx
    · rw [if_neg z] at q
      rw [if_pos z'] at q'
      cases q'
      obtain ⟨x, hx⟩ := k.uh ⟨l, q⟩
      rw [h] at hx
      cases hx
    · rw [if_neg z] at q
      rw [if_neg z'] at q'
      exact k.inj l l' a q q'
  dom := fun l e => by
    have e' : (if l = w.S.next then some o else w.S.get l) = none := e
    show (if l = w.S.next then some p else w.io l) = none
    by_cases q : l = w.S.next
    · rw [if_pos q] at e'
      cases e'
    · rw [if_neg q] at e' ⊢
      exact k.dom l e'
  nxt := fun l e => by
    have e : w.S.next + 1 ≤ l := e
    show (if l = w.S.next then some o else w.S.get l) = none
    rw [if_neg (by omega)]
    exact k.nxt l (by omega)
  dis := fun a b ⟨l, q⟩ => by
    have q' : (if l = w.S.next then some p else w.io l) = some a := q
    by_cases z : l = w.S.next
    · rw [if_pos z] at q'
      cases q'
      obtain ⟨x, hx⟩ := k.bh _ b
      rw [h] at hx
      cases hx
    · rw [if_neg z] at q'
      exact k.dis a b ⟨l, q'⟩
  bh := fun a b => by
    obtain ⟨z, hz⟩ := k.bh a b
    refine ⟨z, ?_⟩
    show upd w.H p u a = _
    rw [upd_ne (ne_of_none hz h)]
    exact hz
end AH

set_option maxRecDepth 100000
set_option maxHeartbeats 2000000
namespace AH
open PySem L2

/-! ### slots, readings, what they are worth -/
inductive Sl where
  | no | val (d : D) | acc (ds : List D)
abbrev Rho := List Sl
abbrev Ev := Rho → Sto → Option (D × Sto)
abbrev EvL := Rho → Sto → Option (List D × Sto)
abbrev EvT := Rho → Sto → Option (Bool × Sto)

structure RS (K : PySem.W.Frag) (w : Wd) (σ : St) (ρ : Rho) : Prop where
  len : σ.length = ρ.length
  val : ∀ (i : Nat) (d : D), ρ[i]? = some (.val d) → ∃ v, σ[i]? = some (some v) ∧ RV K w v d
  acc : ∀ (i : Nat) (ds : List D), ρ[i]? = some (.acc ds) → ∃ a vs, σ[i]? = some (some (.ref a)) ∧ w.H a = some (.lst vs) ∧ RVs K w vs ds ∧ w.B a
theorem RS.fr {K : PySem.W.Frag} {G : Gx} {w w' : Wd} {σ : St} {ρ : Rho} (r : RS K w σ ρ) (k : Ok K G w) (f : Fr w w') : RS K w' σ ρ :=
  ⟨r.len, fun i d h => let ⟨v, h1, h2⟩ := r.val i d h; ⟨v, h1, h2.mono f.mv⟩, fun i ds h => by
    obtain ⟨a, vs, h1, h2, h3, h4⟩ := r.acc i ds h
    exact ⟨a, vs, h1, (f.hp a _ h2 (k.dis a h4)).1, h3.mono f.mv, by rw [f.bb]; exact h4⟩⟩

section
variable (K : PySem.W.Frag) (G : Gx)
/-- what follows a value; a new list; a test; arguments -/
abbrev Kd (w : Wd) (d : D) (S' : Sto) (Q : VK) : Prop := ∀ v w', w'.S = S' → Fr w w' → Ok K G w' → RV K w' v d → Q v w'.H
abbrev Kf (w : Wd) (ds : List D) (S' : Sto) (Q : VK) : Prop := ∀ p vs w', w'.S = S' → Fr w w' → w.H p = none → Ok K G (w'.ban p) → w'.H p = some (.lst vs) → RVs K (w'.ban p) vs ds → Q (.ref p) w'.H
abbrev Kt (w : Wd) (b : Bool) (S' : Sto) (Q : Bool → Hp → Prop) : Prop := ∀ w', w'.S = S' → Fr w w' → Ok K G w' → Q b w'.H
abbrev Ka (w : Wd) (ds : List D) (S' : Sto) (Q : List V → Hp → Prop) : Prop := ∀ vs w', w'.S = S' → Fr w w' → Ok K G w' → RVs K w' vs ds → Q vs w'.H
def SE (te : TE) (ev : Ev) : Prop := ∀ w σ ρ d S', Ok K G w → RS K w σ ρ → ev ρ w.S = some (d, S') → ∀ Q, Kd K G w d S' Q → te σ w.H Q
def SF (te : TE) (ev : EvL) : Prop := ∀ w σ ρ ds S', Ok K G w → RS K w σ ρ → ev ρ w.S = some (ds, S') → ∀ Q, Kf K G w ds S' Q → te σ w.H Q
def STt (tt : TT) (ev : EvT) : Prop := ∀ w σ ρ b S', Ok K G w → RS K w σ ρ → ev ρ w.S = some (b, S') → ∀ Q, Kt K G w b S' Q → tt σ w.H Q
def SA (ta : TA) (ev : EvL) : Prop := ∀ w σ ρ ds S', Ok K G w → RS K w σ ρ → ev ρ w.S = some (ds, S') → ∀ Q, Ka K G w ds S' Q → ta σ w.H Q
def S2 (r : R2) (f : D → D → Sto → Option (D × Sto)) : Prop := ∀ w x y dx dy d S', Ok K G w → RV K w x dx → RV K w y dy → f dx dy w.S = some (d, S') → ∀ Q, Kd K G w d S' Q → r x y w.H Q
def S2f (r : R2) (f : D → D → Sto → Option (List D × Sto)) : Prop := ∀ w x y dx dy ds S', Ok K G w → RV K w x dx → RV K w y dy → f dx dy w.S = some (ds, S') → ∀ Q, Kf K G w ds S' Q → r x y w.H Q
def SN (r : List V → Hp → VK → Prop) (f : List D → Sto → Option (D × Sto)) : Prop := ∀ w xs ds d S', Ok K G w → RVs K w xs ds → f ds w.S = some (d, S') → ∀ Q, Kd K G w d S' Q → r xs w.H Q
def SNf (r : List V → Hp → VK → Prop) (f : List D → Sto → Option (List D × Sto)) : Prop := ∀ w xs ds d S', Ok K G w → RVs K w xs ds → f ds w.S = some (d, S') → ∀ Q, Kf K G w d S' Q → r xs w.H Q
end

section
variable {K : PySem.W.Frag} {G : Gx}
/-- a step, then what follows -/
theorem Kd.from {w w1 : Wd} {d : D} {S' : Sto} {Q : VK} (k : Kd K G w d S' Q) (f : Fr w w1) : Kd K G w1 d S' Q := fun v w' e f' o r => k v w' e (f.trans f') o r
theorem Kf.from {w w1 : Wd} {d : List D} {S' : Sto} {Q : VK} (k : Kf K G w d S' Q) (f : Fr w w1) (o1 : Ok K G w1) : Kf K G w1 d S' Q := fun p vs w' e f' n o h r => k p vs w' e (f.trans f') (f.free' o1 n) o h r
theorem Kt.from {w w1 : Wd} {d : Bool} {S' : Sto} {Q : Bool → Hp → Prop} (k : Kt K G w d S' Q) (f : Fr w w1) : Kt K G w1 d S' Q := fun w' e f' o => k w' e (f.trans f') o
theorem Ka.from {w w1 : Wd} {d : List D} {S' : Sto} {Q : List V → Hp → Prop} (k : Ka K G w d S' Q) (f : Fr w w1) : Ka K G w1 d S' Q := fun v w' e f' o r => k v w' e (f.trans f') o r
theorem Kd.now {w : Wd} {d : D} {Q : VK} {v : V} (k : Kd K G w d w.S Q) (o : Ok K G w) (r : RV K w v d) : Q v w.H := k v w rfl (Fr.refl w) o r
theorem ban_h (w : Wd) (p : Addr) : (w.ban p).H = w.H := rfl
/-- a list just made -/
theorem Kf.new {w : Wd} {ds : List D} {Q : VK} {vs : List V} (k : Kf K G w ds w.S Q) (o : Ok K G w) (r : RVs K w vs ds) {p : Addr} (h : w.H p = none) : Q (.ref p) (upd w.H p (.lst vs)) := by
  have m : Mv w ((w.add p (.lst vs)).ban p) := ⟨fun _ _ e => e, fun a u e q => ⟨by
    show upd w.H p (.lst vs) a = some u
    rw [upd_ne (ne_of_none e h)]
    exact e, fun z => by
    rcases z with (b | b) | b
    · exact q (.inl b)
    · rw [b, h] at e
      cases e
    · exact q (.inr b)⟩, fun a q u e => by
    show upd w.H p (.lst vs) a = some (.frz q u)
    rw [upd_ne (ne_of_none e h)]
    exact e⟩
  refine k p vs (w.add p (.lst vs)) rfl (Fr.add h) h ?_ upd_same (r.mono m)
  have o1 : Ok K G (w.add p (.lst vs)) := o.add h
  refine ⟨fun l u e => ?_, o1.inj, o1.dom, o1.nxt, fun a b => ?_, fun a b => ?_⟩
  · obtain ⟨a, h1, h2⟩ := o.obj l u e
    obtain ⟨z, hz⟩ := h2.some
    refine ⟨a, h1, h2.mono m ?_⟩
    show upd w.H p (.lst vs) a = w.H a
    exact upd_ne (ne_of_none hz h)
  · rcases b with b | b
    · exact o.dis a b
    · intro u
      obtain ⟨z, hz⟩ := o.uh u
      rw [b, h] at hz
      cases hz
  · rcases b with b | b
    · exact o1.bh a b
    · exact ⟨.lst vs, by rw [b]; exact upd_same⟩
theorem Ok.unban {w : Wd} {p : Addr} (o : Ok K G (w.ban p)) : Ok K G w := o.shrink (B := w.B) (w := w.ban p) fun a b => .inl b
theorem RVs.unban {w : Wd} {p : Addr} {vs : List V} {ds : List D} (r : RVs K (w.ban p) vs ds) : RVs K w vs ds := r.mono (Mv.shrink (w := w.ban p) (B := w.B) fun a b => .inl b)
theorem RV.unban {w : Wd} {p : Addr} {v : V} {d : D} (r : RV K (w.ban p) v d) : RV K w v d := r.mono (Mv.shrink (w := w.ban p) (B := w.B) fun a b => .inl b)
/-- a new list as a value -/
theorem Kf.of {w : Wd} {ds : List D} {S' : Sto} {Q : VK} (k : Kd K G w (.lst ds) S' Q) (o : Ok K G w) : Kf K G w ds S' Q := fun p vs w' e f n o' h r => by
  refine k _ w' e f o'.unban (.lst h (fun z => ?_) r.unban)
  rcases z with b | b
  · rw [f.bb] at b
    obtain ⟨z, hz⟩ := o.bh p b
    rw [n] at hz
    cases hz
  · exact o'.dis p (.inr rfl) b
/-- a tuple just made -/
theorem Kd.tup {w : Wd} {ds : List D} {Q : VK} {vs : List V} (k : Kd K G w (.tup ds) w.S Q) (o : Ok K G w) (r : RVs K w vs ds) {p : Addr} (h : w.H p = none) : Q (.ref p) (upd w.H p (.tup vs)) :=
  k _ (w.add p (.tup vs)) rfl (Fr.add h) (o.add h) (.tup upd_same (fun z => o.fresh h z) (r.mono (Fr.add h).mv))
end

/-! ### what the parts are worth -/
def eVar (i : Nat) : Ev := fun ρ S => match ρ[i]? with
  | some (.val d) => some (d, S)
  | _ => none
def eC (d : D) : Ev := fun _ S => some (d, S)
def e2 {α : Type} (f : D → D → Sto → Option (α × Sto)) (a b : Ev) : Rho → Sto → Option (α × Sto) := fun ρ S => (a ρ S).bind fun x => (b ρ x.2).bind fun y => f x.1 y.1 y.2
def e1 {α : Type} (f : D → Sto → Option (α × Sto)) (a : Ev) : Rho → Sto → Option (α × Sto) := fun ρ S => (a ρ S).bind fun x => f x.1 x.2
def eN {α : Type} (f : List D → Sto → Option (α × Sto)) (a : EvL) : Rho → Sto → Option (α × Sto) := fun ρ S => (a ρ S).bind fun x => f x.1 x.2
def eMN {α : Type} (f : D → List D → Sto → Option (α × Sto)) (a : Ev) (b : EvL) : Rho → Sto → Option (α × Sto) := fun ρ S => (a ρ S).bind fun x => (b ρ x.2).bind fun y => f x.1 y.1 y.2
def aNil : EvL := fun _ S => some ([], S)
def aCons (a : Ev) (b : EvL) : EvL := fun ρ S => (a ρ S).bind fun x => (b ρ x.2).bind fun y => some (x.1 :: y.1, y.2)
def eV (a : EvL) : Ev := fun ρ S => (a ρ S).bind fun x => some (.lst x.1, x.2)
def eTup (a : EvL) : Ev := fun ρ S => (a ρ S).bind fun x => if x.1.length ≤ sizeLine then some (.tup x.1, x.2) else none
def fLst (a : EvL) : EvL := fun ρ S => (a ρ S).bind fun x => if x.1.length ≤ sizeLine then some (x.1, x.2) else none
def tOf (a : Ev) : EvT := fun ρ S => (a ρ S).bind fun x => match x.1 with
  | .bl b => some (b, x.2)
  | _ => none
def tAndE (a b : EvT) : EvT := fun ρ S => (a ρ S).bind fun x => if x.1 = true then b ρ x.2 else some (false, x.2)
def tOrE (a b : EvT) : EvT := fun ρ S => (a ρ S).bind fun x => if x.1 = true then some (true, x.2) else b ρ x.2
def tNotE (a : EvT) : EvT := fun ρ S => (a ρ S).bind fun x => some (!x.1, x.2)
def eAndE (a b : Ev) : Ev := fun ρ S => (a ρ S).bind fun x => match x.1 with
  | .bl true => b ρ x.2
  | .bl false => some (.bl false, x.2)
  | _ => none
def eOrE (a b : Ev) : Ev := fun ρ S => (a ρ S).bind fun x => match x.1 with
  | .bl true => some (.bl true, x.2)
  | .bl false => b ρ x.2
  | _ => none
def eNotE (a : Ev) : Ev := fun ρ S => (a ρ S).bind fun x => match x.1 with
  | .bl c => some (.bl (!c), x.2)
  | _ => none
def eIf (t : EvT) (a b : Ev) : Ev := fun ρ S => (t ρ S).bind fun x => if x.1 = true then a ρ x.2 else b ρ x.2
def eIsN (a : Ev) : Ev := fun ρ S => (a ρ S).bind fun x => match x.1 with
  | .non => some (.bl true, x.2)
  | .raw _ => none
  | _ => some (.bl false, x.2)
def eNotN (a : Ev) : Ev := fun ρ S => (a ρ S).bind fun x => match x.1 with
  | .non => some (.bl false, x.2)
  | .raw _ => none
  | _ => some (.bl true, x.2)
def eChain (f g : D → D → Sto → Option (D × Sto)) (a b c : Ev) : Ev := fun ρ S => (a ρ S).bind fun x => (b ρ x.2).bind fun y => (f x.1 y.1 y.2).bind fun z => match z.1 with
  | .bl true => (c ρ z.2).bind fun u => g y.1 u.1 u.2
  | .bl false => some (.bl false, z.2)
  | _ => none

section
variable {K : PySem.W.Frag} {G : Gx} {ta tb tc te : TE} {ea eb ec : Ev} {t u : TT} {et eu : EvT}
theorem bnd {α β : Type} {o : Option α} {f : α → Option β} {b : β} (h : o.bind f = some b) : ∃ a, o = some a ∧ f a = some b := Option.bind_eq_some_iff.mp h
theorem se_var {i : Nat} : SE K G (tVar i) (eVar i) := fun w σ ρ d S' o r h Q k => by
  unfold eVar at h
  split at h
  · rename_i d' e
    cases h
    obtain ⟨v, h1, h2⟩ := r.val i _ e
    exact ⟨v, h1, Kd.now k o h2⟩
  · cases h
theorem se_c {v : V} {d : D} (hd : ∀ w, RV K w v d) : SE K G (tC v) (eC d) := fun w σ ρ d' S' o r h Q k => by
  cases h
  exact Kd.now k o (hd w)
/-- the second operand is had behind the first -/
theorem se_2 {α : Type} {f : D → D → Sto → Option (α × Sto)} (ha : SE K G ta ea) (hb : SE K G tb eb) {w : Wd} {σ : St} {ρ : Rho} {z : α} {S' : Sto} (o : Ok K G w) (r : RS K w σ ρ) (h : e2 f ea eb ρ w.S = some (z, S')) {R : V → V → Hp → Prop}
    (k : ∀ x y dx dy w', Fr w w' → Ok K G w' → RV K w' x dx → RV K w' y dy → f dx dy w'.S = some (z, S') → R x y w'.H) : ta σ w.H fun x H1 => tb σ H1 fun y H2 => R x y H2 := by
  obtain ⟨⟨dx, S1⟩, h1, h2⟩ := bnd h
  obtain ⟨⟨dy, S2⟩, h3, h4⟩ := bnd h2
  refine ha w σ ρ dx S1 o r h1 _ fun x w1 e1 f1 o1 r1 => ?_
  subst e1
  refine hb w1 σ ρ dy S2 o1 (r.fr o f1) h3 _ fun y w2 e2 f2 o2 r2 => ?_
  subst e2
  exact k x y dx dy w2 (f1.trans f2) o2 (r1.mono f2.mv) r2 h4
theorem se_op {r : R2} {f : D → D → Sto → Option (D × Sto)} (hr : S2 K G r f) (ha : SE K G ta ea) (hb : SE K G tb eb) : SE K G (tOp r ta tb) (e2 f ea eb) := fun w σ ρ d S' o rs h Q k =>
  se_2 ha hb o rs h fun x y dx dy w' f' o' rx ry hh => hr w' x y dx dy d S' o' rx ry hh Q (Kd.from k f')
theorem sf_op {r : R2} {f : D → D → Sto → Option (List D × Sto)} (hr : S2f K G r f) (ha : SE K G ta ea) (hb : SE K G tb eb) : SF K G (tOp r ta tb) (e2 f ea eb) := fun w σ ρ d S' o rs h Q k =>
  se_2 ha hb o rs h fun x y dx dy w' f' o' rx ry hh => hr w' x y dx dy d S' o' rx ry hh Q (Kf.from k f' o')
theorem se_of {el : EvL} (h : SF K G te el) : SE K G te (eV el) := fun w σ ρ d S' o rs hh Q k => by
  obtain ⟨⟨ds, S1⟩, h1, h2⟩ := bnd hh
  cases h2
  exact h w σ ρ ds _ o rs h1 Q (Kf.of k o)
theorem sa_nil : SA K G tNil aNil := fun w σ ρ d S' o rs h Q k => by
  cases h
  exact k [] w rfl (Fr.refl w) o .nil
theorem sa_cons {tr : TA} {er : EvL} (ha : SE K G ta ea) (hr : SA K G tr er) : SA K G (tCons ta tr) (aCons ea er) := fun w σ ρ d S' o rs h Q k => by
  obtain ⟨⟨dx, S1⟩, h1, h2⟩ := bnd h
  obtain ⟨⟨dy, S2⟩, h3, h4⟩ := bnd h2
  cases h4
  refine ha w σ ρ dx S1 o rs h1 _ fun x w1 e1 f1 o1 r1 => ?_
  subst e1
  refine hr w1 σ ρ dy _ o1 (rs.fr o f1) h3 _ fun xs w2 e2 f2 o2 r2 => ?_
  exact k (x :: xs) w2 e2 (f1.trans f2) o2 (.cons (r1.mono f2.mv) r2)
theorem se_tup {ta : TA} {el : EvL} (ha : SA K G ta el) : SE K G (tTup ta) (eTup el) := fun w σ ρ d S' o rs h Q k => by
  obtain ⟨⟨ds, S1⟩, h1, h2⟩ := bnd h
  split at h2
  · rename_i hl
    cases h2
    refine ha w σ ρ ds _ o rs h1 _ fun vs w1 e1 f1 o1 r1 => ⟨by rw [r1.length]; exact hl, fun p hp => ?_⟩
    subst e1
    exact Kd.tup (Kd.from k f1) o1 r1 hp
  · cases h2
theorem sf_lst {ta : TA} {el : EvL} (ha : SA K G ta el) : SF K G (tLst ta) (fLst el) := fun w σ ρ d S' o rs h Q k => by
  obtain ⟨⟨ds, S1⟩, h1, h2⟩ := bnd h
  split at h2
  · rename_i hl
    cases h2
    refine ha w σ ρ ds _ o rs h1 _ fun vs w1 e1 f1 o1 r1 => ⟨by rw [r1.length]; exact hl, fun p hp => ?_⟩
    subst e1
    exact Kf.new (Kf.from k f1 o1) o1 r1 hp
  · cases h2
theorem se_n {ta : TA} {el : EvL} {r : List V → Hp → VK → Prop} {f : List D → Sto → Option (D × Sto)} (hr : SN K G r f) (ha : SA K G ta el) : SE K G (tCB r ta) (eN f el) := fun w σ ρ d S' o rs h Q k => by
  obtain ⟨⟨ds, S1⟩, h1, h2⟩ := bnd h
  refine ha w σ ρ ds _ o rs h1 _ fun vs w1 e1 f1 o1 r1 => ?_
  subst e1
  exact hr w1 vs ds d S' o1 r1 h2 Q (Kd.from k f1)
theorem sf_n {ta : TA} {el : EvL} {r : List V → Hp → VK → Prop} {f : List D → Sto → Option (List D × Sto)} (hr : SNf K G r f) (ha : SA K G ta el) : SF K G (tCB r ta) (eN f el) := fun w σ ρ d S' o rs h Q k => by
  obtain ⟨⟨ds, S1⟩, h1, h2⟩ := bnd h
  refine ha w σ ρ ds _ o rs h1 _ fun vs w1 e1 f1 o1 r1 => ?_
  subst e1
  exact hr w1 vs ds d S' o1 r1 h2 Q (Kf.from k f1 o1)
/-! tests -/
theorem bl_of {w : Wd} {v : V} {b : Bool} (r : RV K w v (.bl b)) : v = .bl b := by cases r; rfl
theorem st_test (h : SE K G ta ea) : STt K G (tTest ta) (tOf ea) := fun w σ ρ b S' o rs hh Q k => by
  obtain ⟨⟨d, S1⟩, h1, h2⟩ := bnd hh
  cases d with
  | bl c =>
    cases h2
    exact h w σ ρ _ _ o rs h1 _ fun v w1 e1 f1 o1 r1 => ⟨b, bl_of r1, k w1 e1 f1 o1⟩
  | _ => cases h2
theorem st_B (h : SE K G ta ea) : STt K G (tB ta) (tOf ea) := fun w σ ρ b S' o rs hh Q k => by
  obtain ⟨⟨d, S1⟩, h1, h2⟩ := bnd hh
  cases d with
  | bl c =>
    cases h2
    exact h w σ ρ _ _ o rs h1 _ fun v w1 e1 f1 o1 r1 => ⟨b, bl_of r1, k w1 e1 f1 o1⟩
  | _ => cases h2
theorem st_and (h1 : STt K G t et) (h2 : STt K G u eu) : STt K G (tAnd t u) (tAndE et eu) := fun w σ ρ b S' o rs hh Q k => by
  obtain ⟨⟨c, S1⟩, e1, e2⟩ := bnd hh
  refine h1 w σ ρ c S1 o rs e1 _ fun w1 q1 f1 o1 => ?_
  subst q1
  cases c with
  | true =>
    show u σ w1.H Q
    exact h2 w1 σ ρ b S' o1 (rs.fr o f1) e2 Q (Kt.from k f1)
  | false =>
    show Q false w1.H
    cases e2
    exact k w1 rfl f1 o1
theorem st_or (h1 : STt K G t et) (h2 : STt K G u eu) : STt K G (tOr t u) (tOrE et eu) := fun w σ ρ b S' o rs hh Q k => by
  obtain ⟨⟨c, S1⟩, e1, e2⟩ := bnd hh
  refine h1 w σ ρ c S1 o rs e1 _ fun w1 q1 f1 o1 => ?_
  subst q1
  cases c with
  | false =>
    show u σ w1.H Q
    exact h2 w1 σ ρ b S' o1 (rs.fr o f1) e2 Q (Kt.from k f1)
  | true =>
    show Q true w1.H
    cases e2
    exact k w1 rfl f1 o1
theorem st_not (h : STt K G t et) : STt K G (tNot t) (tNotE et) := fun w σ ρ b S' o rs hh Q k => by
  obtain ⟨⟨c, S1⟩, e1, e2⟩ := bnd hh
  cases e2
  exact h w σ ρ c _ o rs e1 _ fun w1 q1 f1 o1 => k w1 q1 f1 o1
theorem se_and (h1 : SE K G ta ea) (h2 : SE K G tb eb) : SE K G (tAndV ta tb) (eAndE ea eb) := fun w σ ρ d S' o rs hh Q k => by
  obtain ⟨⟨c, S1⟩, q1, q2⟩ := bnd hh
  refine h1 w σ ρ c S1 o rs q1 _ fun v w1 e1 f1 o1 r1 => ?_
  subst e1
  cases c with
  | bl b =>
    refine ⟨b, bl_of r1, ?_⟩
    cases b with
    | true => exact h2 w1 σ ρ d S' o1 (rs.fr o f1) q2 Q (Kd.from k f1)
    | false =>
      cases q2
      exact Kd.now (Kd.from k f1) o1 .bl
  | _ => cases q2
theorem se_or (h1 : SE K G ta ea) (h2 : SE K G tb eb) : SE K G (tOrV ta tb) (eOrE ea eb) := fun w σ ρ d S' o rs hh Q k => by
  obtain ⟨⟨c, S1⟩, q1, q2⟩ := bnd hh
  refine h1 w σ ρ c S1 o rs q1 _ fun v w1 e1 f1 o1 r1 => ?_
  subst e1
  cases c with
  | bl b =>
    refine ⟨b, bl_of r1, ?_⟩
    cases b with
    | false => exact h2 w1 σ ρ d S' o1 (rs.fr o f1) q2 Q (Kd.from k f1)
    | true =>
      cases q2
      exact Kd.now (Kd.from k f1) o1 .bl
  | _ => cases q2
theorem se_not (h1 : SE K G ta ea) : SE K G (tNotV ta) (eNotE ea) := fun w σ ρ d S' o rs hh Q k => by
  obtain ⟨⟨c, S1⟩, q1, q2⟩ := bnd hh
  refine h1 w σ ρ c S1 o rs q1 _ fun v w1 e1 f1 o1 r1 => ?_
  subst e1
  cases c with
  | bl b =>
    cases q2
    exact ⟨b, bl_of r1, Kd.now (Kd.from k f1) o1 .bl⟩
  | _ => cases q2
theorem se_if (h : STt K G t et) (h1 : SE K G ta ea) (h2 : SE K G tb eb) : SE K G (tIf t ta tb) (eIf et ea eb) := fun w σ ρ d S' o rs hh Q k => by
  obtain ⟨⟨c, S1⟩, q1, q2⟩ := bnd hh
  refine h w σ ρ c S1 o rs q1 _ fun w1 e1 f1 o1 => ?_
  subst e1
  cases c with
  | true => exact h1 w1 σ ρ d S' o1 (rs.fr o f1) q2 Q (Kd.from k f1)
  | false => exact h2 w1 σ ρ d S' o1 (rs.fr o f1) q2 Q (Kd.from k f1)
theorem isN_of {w : Wd} {v : V} {d : D} (r : RV K w v d) (hn : ∀ x, d ≠ .raw x) : decide (v = .non) = (match d with | .non => true | _ => false) := by
  cases r with
  | raw => exact absurd rfl (hn _)
  | non => rfl
  | _ => rfl
theorem se_isN (h1 : SE K G ta ea) : SE K G (tIsN ta) (eIsN ea) := fun w σ ρ d S' o rs hh Q k => by
  obtain ⟨⟨c, S1⟩, q1, q2⟩ := bnd hh
  refine h1 w σ ρ c S1 o rs q1 _ fun v w1 e1 f1 o1 r1 => ?_
  subst e1
  cases c with
  | raw x => cases q2
  | _ =>
    cases q2
    rw [isN_of r1 (fun x => by intro z; cases z)]
    exact Kd.now (Kd.from k f1) o1 .bl
theorem se_notN (h1 : SE K G ta ea) : SE K G (tNotN ta) (eNotN ea) := fun w σ ρ d S' o rs hh Q k => by
  obtain ⟨⟨c, S1⟩, q1, q2⟩ := bnd hh
  refine h1 w σ ρ c S1 o rs q1 _ fun v w1 e1 f1 o1 r1 => ?_
  subst e1
  cases c with
  | raw x => cases q2
  | _ =>
    cases q2
    rw [isN_of r1 (fun x => by intro z; cases z)]
    exact Kd.now (Kd.from k f1) o1 .bl
theorem se_chain {r r' : R2} {f g : D → D → Sto → Option (D × Sto)} (hr : S2 K G r f) (hr' : S2 K G r' g) (ha : SE K G ta ea) (hb : SE K G tb eb) (hc : SE K G tc ec) : SE K G (tChain r r' ta tb tc) (eChain f g ea eb ec) := fun w σ ρ d S' o rs h Q k => by
  have h' : e2 (fun x y S => (f x y S).bind fun z => match z.1 with
    | .bl true => (ec ρ z.2).bind fun u => g y u.1 u.2
    | .bl false => some (.bl false, z.2)
    | _ => none) ea eb ρ w.S = some (d, S') := h
  refine se_2 ha hb o rs h' fun x y dx dy w1 f1 o1 rx ry hh => ?_
  obtain ⟨⟨dz, S1⟩, q1, q2⟩ := bnd hh
  refine hr w1 x y dx dy dz S1 o1 rx ry q1 _ fun z w2 e2' f2 o2 rz => ?_
  subst e2'
  cases dz with
  | bl b =>
    refine ⟨b, bl_of rz, ?_⟩
    cases b with
    | true =>
      obtain ⟨⟨du, S3⟩, q3, q4⟩ := bnd q2
      refine hc w2 σ ρ du S3 o2 (rs.fr o (f1.trans f2)) q3 _ fun u w3 e3 f3 o3 ru => ?_
      subst e3
      exact hr' w3 y u dy du d S' o3 (ry.mono (f2.trans f3).mv) ru q4 Q (Kd.from k ((f1.trans f2).trans f3))
    | false =>
      cases q2
      exact Kd.now (Kd.from k (f1.trans f2)) o2 .bl
  | _ => cases q2
end
end AH

set_option maxRecDepth 100000
set_option maxHeartbeats 2000000
namespace AH
open PySem L2

/-! ### operators on data -/
/-- a list by value, or the store's -/
def lstOf (S : Sto) : D → Option (List D)
  | .lst ds => some ds
  | .ref l => match S.get l with
    | some (.lst ds) => some ds
    | _ => none
  | _ => none
/-- a list or a tuple -/
def seqOf (S : Sto) : D → Option (List D)
  | .tup ds => some ds
  | d => lstOf S d
def mulOk (i j : Int) : Bool := decide ((-(2 ^ 64) < i ∧ i < 2 ^ 64) ∨ (-(2 ^ 64) < j ∧ j < 2 ^ 64))
def fAdd (a b : D) (S : Sto) : Option (D × Sto) := match a, b with
  | .int i, .int j => some (.int (i + j), S)
  | .str x, .str y => if x.length + y.length ≤ sizeLine then some (.str (x ++ y), S) else none
  | .tup x, .tup y => if x.isEmpty = false ∧ x.length + y.length ≤ sizeLine then some (.tup (x ++ y), S) else none
  | _, _ => none
def fCat (a b : D) (S : Sto) : Option (List D × Sto) := (lstOf S a).bind fun x => (lstOf S b).bind fun y => if x.length + y.length ≤ sizeLine then some (x ++ y, S) else none
def fSub (a b : D) (S : Sto) : Option (D × Sto) := match a, b with
  | .int i, .int j => some (.int (i - j), S)
  | _, _ => none
def fMul (a b : D) (S : Sto) : Option (D × Sto) := match a, b with
  | .int i, .int j => if mulOk i j = true then some (.int (i * j), S) else none
  | .str x, .int n => if -1000000 ≤ n ∧ n ≤ 1000000 ∧ x.length * n.toNat ≤ 1000000 then some (.str (List.replicate n.toNat x).flatten, S) else none
  | _, _ => none
def fRep (a b : D) (S : Sto) : Option (List D × Sto) := match b with
  | .int n => (lstOf S a).bind fun x => if -1000000 ≤ n ∧ n ≤ 1000000 ∧ x.length * n.toNat ≤ sizeLine then some ((List.replicate n.toNat x).flatten, S) else none
  | _ => none
def fDiv (a b : D) (S : Sto) : Option (D × Sto) := match a, b with
  | .int i, .int j => if 0 < j ∧ j < 1073741824 then some (.int (i / j), S) else none
  | _, _ => none
def fMod (a b : D) (S : Sto) : Option (D × Sto) := match a, b with
  | .int i, .int j => if 0 < j then some (.int (i % j), S) else none
  | _, _ => none
def fPow (a b : D) (S : Sto) : Option (D × Sto) := match a, b with
  | .int i, .int j => if 0 ≤ j ∧ j ≤ 1000 ∧ -1000 ≤ i ∧ i ≤ 1000 then some (.int (i ^ j.toNat), S) else none
  | _, _ => none
def fNeg (a : D) (S : Sto) : Option (D × Sto) := match a with
  | .int i => some (.int (-i), S)
  | _ => none
def fCmp (p : Int → Int → Bool) (a b : D) (S : Sto) : Option (D × Sto) := match a, b with
  | .int i, .int j => some (.bl (p i j), S)
  | _, _ => none
abbrev fLt := fCmp fun i j => decide (i < j)
abbrev fLe := fCmp fun i j => decide (i ≤ j)
abbrev fGt := fCmp fun i j => decide (j < i)
abbrev fGe := fCmp fun i j => decide (j ≤ i)
mutual
def toPy : D → Option PyData
  | .non => some .none
  | .bl b => some (.bool b)
  | .int i => some (.int i)
  | .str c => some (.str ⟨c.toArray⟩)
  | .tup ds => (toPys ds).map .tuple
  | .lst ds => (toPys ds).map .list
  | .ref _ => none
  | .raw _ => none
  | .scr _ => none
def toPys : List D → Option (List PyData)
  | [] => some []
  | d :: ds => match toPy d, toPys ds with
    | some p, some ps => some (p :: ps)
    | _, _ => none
end
/-- the store's list read -/
def toPyS (S : Sto) (d : D) : Option PyData := match d with
  | .ref l => match S.get l with
    | some (.lst ds) => (toPys ds).map .list
    | _ => none
  | d => toPy d
def eqPy (p q : PyData) : Option Bool := if SeqAt.shaped p = true ∧ SeqAt.shaped q = true then some (PyData.eqv p q) else none
def eqD (S : Sto) (a b : D) : Option Bool := match a, b with
  | .int i, .int j => some (decide (i = j))
  | .str x, .str y => some (decide (x = y))
  | .bl x, .bl y => some (decide (x = y))
  | .non, .non => some true
  | .non, .int _ => some false
  | .int _, .non => some false
  | a, b => match toPyS S a, toPyS S b with
    | some p, some q => eqPy p q
    | _, _ => none
def fEq (a b : D) (S : Sto) : Option (D × Sto) := (eqD S a b).map fun c => (.bl c, S)
def fNe (a b : D) (S : Sto) : Option (D × Sto) := (eqD S a b).map fun c => (.bl (!c), S)
/-- a sign in a text -/
def fInS (a b : D) (S : Sto) : Option (D × Sto) := match a, b with
  | .str [c], .str z => some (.bl (decide (c ∈ z)), S)
  | _, _ => none
def fNotInS (a b : D) (S : Sto) : Option (D × Sto) := match a, b with
  | .str [c], .str z => some (.bl (!decide (c ∈ z)), S)
  | _, _ => none
/-- flat things -/
def flatD : D → Option V
  | .non => some .non
  | .int i => some (.int i)
  | .str c => some (.str ⟨c.toArray⟩)
  | .bl b => some (.bl b)
  | _ => none
def flatDs : List D → Option (List V)
  | [] => some []
  | d :: ds => match flatD d, flatDs ds with
    | some p, some ps => some (p :: ps)
    | _, _ => none
def fIn (neg : Bool) (a b : D) (S : Sto) : Option (D × Sto) := (flatD a).bind fun x => (seqOf S b).bind fun ds => (flatDs ds).bind fun xs => some (.bl (if neg then !inV x xs else inV x xs), S)
def fIx (a b : D) (S : Sto) : Option (D × Sto) := match b with
  | .int i => match a with
    | .str z => if z.length ≤ sizeLine then (atI z i).map fun c => (.str [c], S) else none
    | a => (seqOf S a).bind fun ds => (atI ds i).map fun d => (d, S)
  | _ => none

section
variable {K : PySem.W.Frag} {G : Gx}
theorem str_len (c : List Nat) : (⟨c.toArray⟩ : Str).length = c.length := by
  show c.toArray.size = c.length
  simp
theorem str_app (a b : List Nat) : (⟨a.toArray⟩ : Str) ++ ⟨b.toArray⟩ = ⟨(a ++ b).toArray⟩ := by
  show (⟨a.toArray ++ b.toArray⟩ : Str) = _
  simp
theorem str_eq {a b : List Nat} : ((⟨a.toArray⟩ : Str) = ⟨b.toArray⟩) = (a = b) := by
  apply propext
  constructor
  · intro h
    have e2 : a.toArray = b.toArray := congrArg Str.cps h
    have := congrArg Array.toList e2
    simpa using this
  · intro h
    rw [h]
theorem lstOf_rv {w : Wd} {v : V} {d : D} {ds : List D} (o : Ok K G w) (r : RV K w v d) (h : lstOf w.S d = some ds) : ∃ a vs, v = .ref a ∧ w.H a = some (.lst vs) ∧ RVs K w vs ds := by
  cases d with
  | lst xs =>
    cases h
    cases r with
    | lst h1 h2 h3 => exact ⟨_, _, rfl, h1, h3⟩
  | ref l =>
    dsimp only [lstOf] at h
    cases e : w.S.get l with
    | none =>
      rw [e] at h
      cases h
    | some u =>
      rw [e] at h
      cases u with
      | lst xs =>
        cases h
        cases r with
        | ref h1 =>
          obtain ⟨a, q1, vs, q2, q3⟩ := o.obj l _ e
          rw [h1] at q1
          cases q1
          exact ⟨_, vs, rfl, q2, q3⟩
      | _ => cases h
  | _ => cases h
theorem seqOf_rv {w : Wd} {v : V} {d : D} {ds : List D} (o : Ok K G w) (r : RV K w v d) (h : seqOf w.S d = some ds) : ∃ a vs, v = .ref a ∧ (SqL K w.H a vs ∨ SqT K w.H a vs) ∧ RVs K w vs ds := by
  cases d with
  | tup xs =>
    cases h
    cases r with
    | tup h1 h2 h3 => exact ⟨_, _, rfl, .inr (SqT.of h1), h3⟩
  | _ =>
    obtain ⟨a, vs, h1, h2, h3⟩ := lstOf_rv o r h
    exact ⟨a, vs, h1, .inl (SqL.of h2), h3⟩
theorem s2_or1 {r r' : R2} {f : D → D → Sto → Option (D × Sto)} (h : S2 K G r f) : S2 K G (fun x y H Q => r x y H Q ∨ r' x y H Q) f := fun w x y dx dy d S' o rx ry hh Q k => .inl (h w x y dx dy d S' o rx ry hh Q k)
theorem s2_cases {r : R2} {f : D → D → Sto → Option (D × Sto)} (h : ∀ w x y dx dy d, Ok K G w → RV K w x dx → RV K w y dy → ∀ S', f dx dy w.S = some (d, S') → ∀ Q : VK, Kd K G w d S' Q → r x y w.H Q) : S2 K G r f := fun w x y dx dy d S' o rx ry hh Q k => h w x y dx dy d o rx ry S' hh Q k

/-- + of ints, texts, tuples -/
def rAddAny (K : PySem.W.Frag) : R2 := fun x y H Q => rI0 (fun i j => .int (i + j)) x y H Q ∨ ((∃ i j, x = .str i ∧ y = .str j ∧ i.length + j.length ≤ sizeLine ∧ Q (.str (i ++ j)) H) ∨ rCatT K x y H Q)
theorem op_addAny {X : Cx} : OpR X (binaryOp .Add) (rAddAny X.K) := op_add.or (op_add_str.or op_catT)
theorem s2_add : S2 K G (rAddAny K) fAdd := fun w x y dx dy d S' o rx ry hh Q k => by
  unfold fAdd at hh
  split at hh
  · cases hh
    cases rx
    cases ry
    exact .inl ⟨_, _, rfl, rfl, Kd.now k o .int⟩
  · split at hh
    · rename_i hl
      cases hh
      cases rx
      cases ry
      refine .inr (.inl ⟨_, _, rfl, rfl, by rw [str_len, str_len]; exact hl, ?_⟩)
      rw [str_app]
      exact Kd.now k o .str
    · cases hh
  · split at hh
    · rename_i hl
      cases hh
      cases rx with
      | tup h1 h2 h3 =>
        cases ry with
        | tup g1 g2 g3 =>
          have l1 := h3.length
          have l2 := g3.length
          refine .inr (.inr ⟨_, _, _, _, rfl, rfl, SqT.of h1, SqT.of g1, ?_, by rw [l1, l2]; exact hl.2, ?_, ?_⟩)
          · intro z
            subst z
            cases h3
            exact absurd hl.1 (by simp)
          · intro z
            subst z
            cases g3
            rw [List.append_nil] at k
            exact Kd.now k o (.tup h1 h2 h3)
          · intro z p hp
            exact Kd.tup k o (h3.append g3) hp
    · cases hh
  · cases hh
theorem op_mul_str {X : Cx} : OpR X (binaryOp .Mult) (fun x y H Q => ∃ z n, x = .str z ∧ y = .int n ∧ (-1000000 ≤ n ∧ n ≤ 1000000 ∧ z.length * n.toNat ≤ 1000000) ∧ Q (.str ⟨((List.replicate n.toNat z.cps.toList).flatten).toArray⟩) H) := by
  intro pins s σ H x y v u Q I rx ry h
  obtain ⟨z, n, rfl, rfl, ⟨h1, h2, h3⟩, q⟩ := h
  obtain ⟨t, rfl⟩ := rx
  obtain ⟨t', rfl⟩ := ry
  have fold : ∀ (m : Nat) (a : Array Nat), (List.replicate m z.cps).foldl (· ++ ·) a = (a.toList ++ (List.replicate m z.cps.toList).flatten).toArray := by
    intro m
    induction m with
    | zero =>
      intro a
      simp
    | succ m ih =>
      intro a
      rw [List.replicate_succ, List.foldl_cons, ih, List.replicate_succ, List.flatten_cons]
      simp [List.append_assoc]
  have zl : z.cps.toList.length = z.length := by
    show z.cps.toList.length = z.cps.size
    simp
  have hz : z.length = 0 → z.cps.toList = [] := fun e => by
    apply List.length_eq_zero_iff.mp
    omega
  refine PySem.P.mul_str (by simp; omega) (fun a b => ?_) (fun a b => ?_) ?_
  · intro gt
    have hn : 1 ≤ n := by omega
    have e1 : (2 ^ 63 - 1 : Int) / n ≥ (2 ^ 63 - 1 : Int) / 1000000 := by
      have := Int.ediv_le_ediv (a := n * ((2 ^ 63 - 1 : Int) / 1000000)) (b := 2 ^ 63 - 1) (c := n) (by omega) (by
        have : n * ((2 ^ 63 - 1 : Int) / 1000000) ≤ 1000000 * ((2 ^ 63 - 1 : Int) / 1000000) := Int.mul_le_mul_of_nonneg_right h2 (by decide)
        have h5 : (1000000 : Int) * ((2 ^ 63 - 1 : Int) / 1000000) ≤ 2 ^ 63 - 1 := by decide
        omega)
      rw [Int.mul_ediv_cancel_left _ (by omega)] at this
      exact this
    have e2 : (z.length : Int) ≤ 1000000 := by
      have : 1 ≤ n.toNat := by omega
      have : z.length * 1 ≤ z.length * n.toNat := Nat.mul_le_mul_left _ this
      omega
    have e3 : ((2 ^ 63 - 1 : Int) / 1000000) > 1000000 := by decide
    omega
  · unfold Builtin.Str.tooLong
    rw [decide_eq_false]
    rw [sizeLine_eq]
    omega
  · have fin : ∀ (c : Str) (tk : Tok) (s' : Shared), (⟨((List.replicate n.toNat z.cps.toList).flatten).toArray⟩ : Str) = c → Inv X pins σ H s' → EP X pins σ Q (.str c tk) s' := fun c tk s' e I' => ⟨.str _, H, I', ⟨_, by rw [e]⟩, q⟩
    by_cases c1 : n < 1
    · rw [if_pos c1]
      have e0 : n.toNat = 0 := by omega
      refine ⟨by decide, fin _ _ _ ?_ (I.tok _)⟩
      rw [e0]
      rfl
    · rw [if_neg c1]
      by_cases c2 : (n == 1 || z.length == 0) = true
      · rw [if_pos c2]
        refine fin _ _ _ ?_ I
        simp only [Bool.or_eq_true, beq_iff_eq] at c2
        rcases c2 with c2 | c2
        · subst c2
          show (⟨((List.replicate 1 z.cps.toList).flatten).toArray⟩ : Str) = z
          simp
        · rw [hz c2]
          have : z = ⟨#[]⟩ := by
            obtain ⟨za⟩ := z
            have := hz c2
            simp at this
            rw [this]
          rw [this]
          simp
      · rw [if_neg c2]
        have e5 : (⟨((List.replicate n.toNat z.cps.toList).flatten).toArray⟩ : Str) = ⟨(List.replicate n.toNat z.cps).foldl (· ++ ·) #[]⟩ := by
          rw [fold]
          simp
        refine ⟨?_, fin _ _ _ e5 (I.tok _)⟩
        rw [← e5]
        show ((List.replicate n.toNat z.cps.toList).flatten).toArray.size ≤ sizeLine
        rw [List.size_toArray, List.length_flatten]
        simp
        rw [sizeLine_eq]
        have : n.toNat * z.length ≤ 1000000 := by rw [Nat.mul_comm]; exact h3
        have zz : z.cps.size = z.length := rfl
        rw [zz]
        omega
def rMulAny : R2 := fun x y H Q => rI CMul (fun i j => .int (i * j)) x y H Q ∨ (∃ z n, x = .str z ∧ y = .int n ∧ (-1000000 ≤ n ∧ n ≤ 1000000 ∧ z.length * n.toNat ≤ 1000000) ∧ Q (.str ⟨((List.replicate n.toNat z.cps.toList).flatten).toArray⟩) H)
theorem op_mulAny {X : Cx} : OpR X (binaryOp .Mult) rMulAny := op_mul.or op_mul_str
theorem s2_mul : S2 K G rMulAny fMul := fun w x y dx dy d S' o rx ry hh Q k => by
  unfold fMul at hh
  split at hh
  · split at hh
    · rename_i hl
      cases hh
      cases rx
      cases ry
      rename_i i j
      have hl2 : (-(2 ^ 64) < i ∧ i < 2 ^ 64) ∨ (-(2 ^ 64) < j ∧ j < 2 ^ 64) := of_decide_eq_true hl
      exact .inl ⟨_, _, rfl, rfl, hl2, Kd.now k o .int⟩
    · cases hh
  · split at hh
    · rename_i hl
      cases hh
      cases rx
      cases ry
      refine .inr ⟨_, _, rfl, rfl, by rw [str_len]; exact hl, ?_⟩
      exact Kd.now k o .str
    · cases hh
  · cases hh
theorem s2_sub : S2 K G (rI0 fun i j => .int (i - j)) fSub := fun w x y dx dy d S' o rx ry hh Q k => by
  unfold fSub at hh
  split at hh
  · cases hh
    cases rx
    cases ry
    exact ⟨_, _, rfl, rfl, Kd.now k o .int⟩
  · cases hh
theorem s2_div : S2 K G (rI CDiv fun i j => .int (i / j)) fDiv := fun w x y dx dy d S' o rx ry hh Q k => by
  unfold fDiv at hh
  split at hh
  · split at hh
    · rename_i hl
      cases hh
      cases rx
      cases ry
      exact ⟨_, _, rfl, rfl, hl, Kd.now k o .int⟩
    · cases hh
  · cases hh
theorem s2_mod : S2 K G (rI (fun _ j => 0 < j) fun i j => .int (i % j)) fMod := fun w x y dx dy d S' o rx ry hh Q k => by
  unfold fMod at hh
  split at hh
  · split at hh
    · rename_i hl
      cases hh
      cases rx
      cases ry
      exact ⟨_, _, rfl, rfl, hl, Kd.now k o .int⟩
    · cases hh
  · cases hh
theorem s2_pow : S2 K G (rI CPow fun i j => .int (i ^ j.toNat)) fPow := fun w x y dx dy d S' o rx ry hh Q k => by
  unfold fPow at hh
  split at hh
  · split at hh
    · rename_i hl
      cases hh
      cases rx
      cases ry
      exact ⟨_, _, rfl, rfl, ⟨hl.1, by omega, by omega⟩, Kd.now k o .int⟩
    · cases hh
  · cases hh
theorem s2_cmp {p : Int → Int → Bool} : S2 K G (rI0 fun i j => .bl (p i j)) (fCmp p) := fun w x y dx dy d S' o rx ry hh Q k => by
  unfold fCmp at hh
  split at hh
  · cases hh
    cases rx
    cases ry
    exact ⟨_, _, rfl, rfl, Kd.now k o .bl⟩
  · cases hh
/-! == -/
mutual
theorem toPy_dp {w : Wd} : ∀ {d : D} {v : V} {p : PyData}, RV K w v d → toPy d = some p → Dp K w.H v p
  | .non, _, _, r, h => by cases r; cases h; exact .non
  | .bl b, _, _, r, h => by cases r; cases h; exact .bl b
  | .int i, _, _, r, h => by cases r; cases h; exact .int i
  | .str c, _, _, r, h => by
    cases r
    rw [toPy] at h
    cases h
    exact .str _
  | .tup ds, _, p, r, h => by
    cases r with
    | tup h1 h2 h3 =>
      rw [toPy] at h
      cases e : toPys ds with
      | none => rw [e] at h; cases h
      | some ps =>
        rw [e] at h
        cases h
        exact .tup (SqT.of h1) (toPys_dp h3 e)
  | .lst ds, _, p, r, h => by
    cases r with
    | lst h1 h2 h3 =>
      rw [toPy] at h
      cases e : toPys ds with
      | none => rw [e] at h; cases h
      | some ps =>
        rw [e] at h
        cases h
        exact .lst (SqL.of h1) (toPys_dp h3 e)
  | .ref _, _, _, _, h => by rw [toPy] at h; cases h
  | .raw _, _, _, _, h => by rw [toPy] at h; cases h
  | .scr _, _, _, _, h => by rw [toPy] at h; cases h
theorem toPys_dp {w : Wd} : ∀ {ds : List D} {vs : List V} {ps : List PyData}, RVs K w vs ds → toPys ds = some ps → DpAll K w.H vs ps
  | [], _, _, r, h => by cases r; rw [toPys] at h; cases h; exact .nil
  | d :: ds, _, ps, r, h => by
    cases r with
    | cons r1 r2 =>
      rw [toPys] at h
      cases e1 : toPy d with
      | none => rw [e1] at h; cases h
      | some p =>
        cases e2 : toPys ds with
        | none => rw [e1, e2] at h; cases h
        | some qs =>
          rw [e1, e2] at h
          cases h
          exact .cons (toPy_dp r1 e1) (toPys_dp r2 e2)
end
theorem toPyS_dp {w : Wd} {d : D} {v : V} {p : PyData} (o : Ok K G w) (r : RV K w v d) (h : toPyS w.S d = some p) : Dp K w.H v p := by
  cases d with
  | ref l =>
    dsimp only [toPyS] at h
    cases e : w.S.get l with
    | none => rw [e] at h; cases h
    | some u =>
      rw [e] at h
      cases u with
      | lst ds =>
        cases e2 : toPys ds with
        | none =>
          dsimp only at h
          rw [e2] at h
          cases h
        | some ps =>
          dsimp only at h
          rw [e2] at h
          cases h
          obtain ⟨a, vs, rfl, h1, h2⟩ := lstOf_rv (ds := ds) o r (by dsimp only [lstOf]; rw [e])
          exact .lst (SqL.of h1) (toPys_dp h2 e2)
      | _ => cases h
  | _ => exact toPy_dp r h
def rEqAny (K : PySem.W.Frag) : R2 := fun x y H Q => rEq x y H Q ∨ rEqD K x y H Q
def rNeAny (K : PySem.W.Frag) : R2 := fun x y H Q => rNe x y H Q ∨ rNeD K x y H Q
theorem op_eqAny {X : Cx} (hu : X.A.units + 64 < cLine) : OpR X (compareOp .Eq) (rEqAny X.K) := op_eq.or (op_eqD hu)
theorem op_neAny {X : Cx} (hu : X.A.units + 64 < cLine) : OpR X (compareOp .NotEq) (rNeAny X.K) := op_ne.or (op_neD hu)
theorem eqD_rv {w : Wd} {x y : V} {dx dy : D} {c : Bool} (o : Ok K G w) (rx : RV K w x dx) (ry : RV K w y dy) (h : eqD w.S dx dy = some c) :
    (scal x y = true ∧ decide (x = y) = c) ∨ ∃ p q, Dp K w.H x p ∧ Dp K w.H y q ∧ SeqAt.shaped p = true ∧ SeqAt.shaped q = true ∧ PyData.eqv p q = c := by
  unfold eqD at h
  split at h
  · cases h; cases rx; cases ry
    exact .inl ⟨rfl, by simp⟩
  · cases h; cases rx; cases ry
    refine .inl ⟨rfl, ?_⟩
    simp [str_eq]
  · cases h; cases rx; cases ry
    exact .inl ⟨rfl, by simp⟩
  · cases h; cases rx; cases ry
    exact .inl ⟨rfl, by simp⟩
  · cases h; cases rx; cases ry
    exact .inl ⟨rfl, by simp⟩
  · cases h; cases rx; cases ry
    exact .inl ⟨rfl, by simp⟩
  · right
    cases e1 : toPyS w.S dx with
    | none => rw [e1] at h; cases h
    | some p =>
      cases e2 : toPyS w.S dy with
      | none => rw [e1, e2] at h; cases h
      | some q =>
        rw [e1, e2] at h
        dsimp only [eqPy] at h
        split at h
        · rename_i hs
          cases h
          exact ⟨p, q, toPyS_dp o rx e1, toPyS_dp o ry e2, hs.1, hs.2, rfl⟩
        · cases h
theorem s2_eq : S2 K G (rEqAny K) fEq := fun w x y dx dy d S' o rx ry hh Q k => by
  unfold fEq at hh
  cases e : eqD w.S dx dy with
  | none => rw [e] at hh; cases hh
  | some c =>
    rw [e] at hh
    cases hh
    rcases eqD_rv o rx ry e with ⟨h1, h2⟩ | ⟨p, q, h1, h2, h3, h4, h5⟩
    · refine .inl ⟨h1, ?_⟩
      rw [h2]
      exact Kd.now k o .bl
    · refine .inr ⟨p, q, h1, h2, h3, h4, ?_⟩
      rw [h5]
      exact Kd.now k o .bl
theorem s2_ne : S2 K G (rNeAny K) fNe := fun w x y dx dy d S' o rx ry hh Q k => by
  unfold fNe at hh
  cases e : eqD w.S dx dy with
  | none => rw [e] at hh; cases hh
  | some c =>
    rw [e] at hh
    cases hh
    rcases eqD_rv o rx ry e with ⟨h1, h2⟩ | ⟨p, q, h1, h2, h3, h4, h5⟩
    · refine .inl ⟨h1, ?_⟩
      rw [h2]
      exact Kd.now k o .bl
    · refine .inr ⟨p, q, h1, h2, h3, h4, ?_⟩
      rw [h5]
      exact Kd.now k o .bl
theorem s2_inS : S2 K G (fun x y H Q => ∃ (c : Nat) (z : Str), x = .str ⟨#[c]⟩ ∧ y = .str z ∧ Q (.bl (decide (c ∈ z.cps.toList))) H) fInS := fun w x y dx dy d S' o rx ry hh Q k => by
  unfold fInS at hh
  split at hh
  · cases hh; cases rx; cases ry
    refine ⟨_, _, rfl, rfl, ?_⟩
    have e : ∀ (c : Nat) (z : List Nat), decide (c ∈ (⟨z.toArray⟩ : Str).cps.toList) = decide (c ∈ z) := fun c z => by simp
    rw [e]
    exact Kd.now k o .bl
  · cases hh
theorem s2_notInS : S2 K G (fun x y H Q => ∃ (c : Nat) (z : Str), x = .str ⟨#[c]⟩ ∧ y = .str z ∧ Q (.bl (!decide (c ∈ z.cps.toList))) H) fNotInS := fun w x y dx dy d S' o rx ry hh Q k => by
  unfold fNotInS at hh
  split at hh
  · cases hh; cases rx; cases ry
    refine ⟨_, _, rfl, rfl, ?_⟩
    have e : ∀ (c : Nat) (z : List Nat), decide (c ∈ (⟨z.toArray⟩ : Str).cps.toList) = decide (c ∈ z) := fun c z => by simp
    rw [e]
    exact Kd.now k o .bl
  · cases hh
theorem flatD_rv {w : Wd} {d : D} {v u : V} (r : RV K w v d) (h : flatD d = some u) : v = u ∧ flatV u = true := by
  cases d with
  | non => cases r; cases h; exact ⟨rfl, rfl⟩
  | int i => cases r; cases h; exact ⟨rfl, rfl⟩
  | str i => cases r; cases h; exact ⟨rfl, rfl⟩
  | bl i => cases r; cases h; exact ⟨rfl, rfl⟩
  | _ => cases h
theorem flatDs_rv {w : Wd} : ∀ {ds : List D} {vs us : List V}, RVs K w vs ds → flatDs ds = some us → vs = us ∧ us.all flatV = true
  | [], _, _, r, h => by cases r; cases h; exact ⟨rfl, rfl⟩
  | d :: ds, _, us, r, h => by
    cases r with
    | cons r1 r2 =>
      rw [flatDs] at h
      cases e1 : flatD d with
      | none => rw [e1] at h; cases h
      | some p =>
        cases e2 : flatDs ds with
        | none => rw [e1, e2] at h; cases h
        | some qs =>
          rw [e1, e2] at h
          cases h
          obtain ⟨h1, h2⟩ := flatD_rv r1 e1
          obtain ⟨h3, h4⟩ := flatDs_rv r2 e2
          exact ⟨by rw [h1, h3], by rw [List.all_cons, h2, h4]; rfl⟩
theorem s2_in {neg : Bool} : S2 K G (rIn K neg) (fIn neg) := fun w x y dx dy d S' o rx ry hh Q k => by
  obtain ⟨u, h1, h2⟩ := bnd hh
  obtain ⟨ds, h3, h4⟩ := bnd h2
  obtain ⟨us, h5, h6⟩ := bnd h4
  cases h6
  obtain ⟨q1, q2⟩ := flatD_rv rx h1
  obtain ⟨a, vs, q3, q4, q5⟩ := seqOf_rv o ry h3
  obtain ⟨q6, q7⟩ := flatDs_rv q5 h5
  subst q1 q3 q6
  exact ⟨a, vs, rfl, q4, q2, q7, Kd.now k o .bl⟩
theorem atI_rv {w : Wd} {vs : List V} {ds : List D} {i : Int} {d : D} (r : RVs K w vs ds) (h : atI ds i = some d) : ∃ v, atI vs i = some v ∧ RV K w v d := by
  unfold atI at h ⊢
  rw [r.length]
  obtain ⟨j, h1, h2⟩ := bnd h
  obtain ⟨v, h3, h4⟩ := r.get h2
  exact ⟨v, by rw [h1]; exact h3, h4⟩
theorem s2_ix : S2 K G (rIx K) fIx := fun w x y dx dy d S' o rx ry hh Q k => by
  unfold fIx at hh
  split at hh
  · rename_i i
    cases ry
    split at hh
    · split at hh
      · rename_i z hz
        cases rx
        cases e : atI z i with
        | none => rw [e] at hh; cases hh
        | some c =>
          rw [e] at hh
          cases hh
          refine .inr (.inr ⟨_, i, c, rfl, rfl, by rw [str_len]; exact hz, by simpa using e, ?_⟩)
          exact k _ w rfl (Fr.refl w) o .str
      · cases hh
    · obtain ⟨ds, h1, h2⟩ := bnd hh
      cases e : atI ds i with
      | none => rw [e] at h2; cases h2
      | some c =>
        rw [e] at h2
        cases h2
        obtain ⟨a, vs, q3, q4, q5⟩ := seqOf_rv o rx h1
        obtain ⟨v, q6, q7⟩ := atI_rv q5 e
        subst q3
        rcases q4 with q4 | q4
        · exact .inl ⟨a, vs, i, v, rfl, rfl, q4, q6, Kd.now k o q7⟩
        · exact .inr (.inl ⟨a, vs, i, v, rfl, rfl, q4, q6, Kd.now k o q7⟩)
  · cases hh
/-- lists put together; a list so many times -/
theorem s2f_cat : S2f K G rCat fCat := fun w x y dx dy d S' o rx ry hh Q k => by
  obtain ⟨xs, h1, h2⟩ := bnd hh
  obtain ⟨ys, h3, h4⟩ := bnd h2
  split at h4
  · rename_i hl
    cases h4
    obtain ⟨a, vs, rfl, q1, q2⟩ := lstOf_rv o rx h1
    obtain ⟨b, us, rfl, q3, q4⟩ := lstOf_rv o ry h3
    exact ⟨a, b, vs, us, rfl, rfl, q1, q3, by rw [q2.length, q4.length]; exact hl, fun p hp => Kf.new k o (q2.append q4) hp⟩
  · cases h4
theorem RVs.rep {w : Wd} {vs : List V} {ds : List D} (r : RVs K w vs ds) : ∀ n, RVs K w (List.replicate n vs).flatten (List.replicate n ds).flatten
  | 0 => .nil
  | n + 1 => by
    rw [List.replicate_succ, List.flatten_cons, List.replicate_succ, List.flatten_cons]
    exact r.append (RVs.rep r n)
theorem s2f_rep : S2f K G rRep fRep := fun w x y dx dy d S' o rx ry hh Q k => by
  unfold fRep at hh
  split at hh
  · obtain ⟨xs, h1, h2⟩ := bnd hh
    split at h2
    · rename_i hl
      cases h2
      cases ry
      obtain ⟨a, vs, rfl, q1, q2⟩ := lstOf_rv o rx h1
      exact ⟨a, _, vs, rfl, rfl, q1, by omega, by omega, by rw [q2.length]; exact hl.2.2, fun p hp => Kf.new k o (q2.rep _) hp⟩
    · cases h2
  · cases hh
end
end AH

set_option maxRecDepth 100000
set_option maxHeartbeats 2000000
namespace AH
open PySem L2 TL

abbrev EvO := Rho → Sto → Option (Option Int × Sto)
def oNone : EvO := fun _ S => some (none, S)
def oSome (a : Ev) : EvO := fun ρ S => (a ρ S).bind fun x => match x.1 with
  | .int i => some (some i, x.2)
  | _ => none
def cutL {α : Type} (xs : List α) (lo hi : Option Int) : List α := (xs.drop (HT.sIx xs.length 0 lo)).take (HT.sIx xs.length xs.length hi - HT.sIx xs.length 0 lo)
/-- slices of texts and tuples; of lists -/
def fSl (d : D) (lo hi : Option Int) (S : Sto) : Option (D × Sto) := match d with
  | .str z => if z.length ≤ sizeLine then some (.str (cutL z lo hi), S) else none
  | .tup ds => if HT.sIx ds.length 0 lo = 0 ∧ HT.sIx ds.length ds.length hi = ds.length then none else some (.tup (cutL ds lo hi), S)
  | _ => none
def fSlL (d : D) (lo hi : Option Int) (S : Sto) : Option (List D × Sto) := (lstOf S d).map fun ds => (cutL ds lo hi, S)
def e3 {α : Type} (f : D → Option Int → Option Int → Sto → Option (α × Sto)) (a : Ev) (b c : EvO) : Rho → Sto → Option (α × Sto) := fun ρ S => (a ρ S).bind fun x => (b ρ x.2).bind fun y => (c ρ y.2).bind fun z => f x.1 y.1 z.1 z.2

def fLen (ds : List D) (S : Sto) : Option (D × Sto) := match ds with
  | [.str z] => if z.length ≤ sizeLine then some (.int z.length, S) else none
  | [.scr ns] => some (.int ns.length, S)
  | [d] => (seqOf S d).map fun ds => (.int ds.length, S)
  | _ => none
def fLenD (ds : List D) (S : Sto) : Option (D × Sto) := match ds with
  | [.ref l] => match S.get l with
    | some (.dic false kvs) => some (.int kvs.length, S)
    | _ => none
  | _ => none
def fStr (ds : List D) (S : Sto) : Option (D × Sto) := match ds with
  | [.int n] => if 0 ≤ n ∧ n < 10 ^ 30 then some (.str (numL n.toNat), S) else none
  | [.str z] => some (.str z, S)
  | _ => none
def fInt (ds : List D) (S : Sto) : Option (D × Sto) := match ds with
  | [.int n] => some (.int n, S)
  | [.bl b] => some (.int (if b then 1 else 0), S)
  | _ => none
def decV (l : List Nat) : Nat := l.foldl (fun acc c => acc * 10 + (c - 48)) 0
def allDig (l : List Nat) : Bool := l.all fun c => decide (48 ≤ c ∧ c ≤ 57)
def fIntS (ds : List D) (S : Sto) : Option (D × Sto) := match ds with
  | [.str z] => if allDig z = true ∧ z ≠ [] ∧ z.length ≤ 600 then some (.int (decV z), S) else none
  | _ => none
def fListOf (ds : List D) (S : Sto) : Option (List D × Sto) := match ds with
  | [.scr ns] => some (ns.map D.int, S)
  | [d] => (seqOf S d).map fun ds => (ds, S)
  | _ => none
def fTupOf (ds : List D) (S : Sto) : Option (D × Sto) := match ds with
  | [.tup ds] => some (.tup ds, S)
  | [d] => (lstOf S d).map fun ds => (.tup ds, S)
  | _ => none
def fMax2 (ds : List D) (S : Sto) : Option (D × Sto) := match ds with
  | [.int i, .int j] => some (.int (if j > i then j else i), S)
  | _ => none
def fMin2 (ds : List D) (S : Sto) : Option (D × Sto) := match ds with
  | [.int i, .int j] => some (.int (if j < i then j else i), S)
  | _ => none
/-- isinstance(x, a built-in type) -/
def tyName (S : Sto) : D → Option String
  | .non => some "NoneType"
  | .bl _ => some "bool"
  | .int _ => some "int"
  | .str _ => some "str"
  | .tup _ => some "tuple"
  | .lst _ => some "list"
  | .ref l => match S.get l with
    | some (.lst _) => some "list"
    | some (.dic _ _) => some "dict"
    | some (.dit false _) => some "dict"
    | _ => none
  | _ => none
def isT (T : String) (n : String) : Bool := n == T || (n == "bool" && T == "int")
def okT (T : String) : Bool := T == "int" || T == "bool" || T == "str" || T == "list" || T == "tuple"
def fIsT (ds : List D) (S : Sto) : Option (D × Sto) := match ds with
  | [d, .raw (.ty T)] => if okT T = true then (tyName S d).map fun n => (.bl (isT T n), S) else none
  | _ => none

section
variable {K : PySem.W.Frag} {G : Gx}
def SOo (K : PySem.W.Frag) (G : Gx) (to : TO) (ev : EvO) : Prop := ∀ w σ ρ b S', Ok K G w → RS K w σ ρ → ev ρ w.S = some (b, S') → ∀ Q : Option Int → Hp → Prop, (∀ w', w'.S = S' → Fr w w' → Ok K G w' → Q b w'.H) → to σ w.H Q
theorem so_none : SOo K G tNoPart oNone := fun w σ ρ b S' o rs h Q k => by
  cases h
  exact k w rfl (Fr.refl w) o
theorem so_some {te : TE} {ea : Ev} (h : SE K G te ea) : SOo K G (tPart te) (oSome ea) := fun w σ ρ b S' o rs hh Q k => by
  obtain ⟨⟨d, S1⟩, h1, h2⟩ := bnd hh
  cases d with
  | int i =>
    cases h2
    exact h w σ ρ _ _ o rs h1 _ fun v w1 e1 f1 o1 r1 => ⟨i, by cases r1; rfl, k w1 e1 f1 o1⟩
  | _ => cases h2
def S3 (K : PySem.W.Frag) (G : Gx) (r : V → Option Int → Option Int → Hp → VK → Prop) (f : D → Option Int → Option Int → Sto → Option (D × Sto)) : Prop := ∀ w x dx lo hi d S', Ok K G w → RV K w x dx → f dx lo hi w.S = some (d, S') → ∀ Q, Kd K G w d S' Q → r x lo hi w.H Q
def S3f (K : PySem.W.Frag) (G : Gx) (r : V → Option Int → Option Int → Hp → VK → Prop) (f : D → Option Int → Option Int → Sto → Option (List D × Sto)) : Prop := ∀ w x dx lo hi d S', Ok K G w → RV K w x dx → f dx lo hi w.S = some (d, S') → ∀ Q, Kf K G w d S' Q → r x lo hi w.H Q
theorem se_3 {α : Type} {te : TE} {ea : Ev} {tl th : TO} {el eh : EvO} {f : D → Option Int → Option Int → Sto → Option (α × Sto)} (ha : SE K G te ea) (hl : SOo K G tl el) (hh : SOo K G th eh) {w : Wd} {σ : St} {ρ : Rho} {z : α} {S' : Sto} (o : Ok K G w) (r : RS K w σ ρ)
    (h : e3 f ea el eh ρ w.S = some (z, S')) {R : V → Option Int → Option Int → Hp → Prop} (k : ∀ x dx lo hi w', Fr w w' → Ok K G w' → RV K w' x dx → f dx lo hi w'.S = some (z, S') → R x lo hi w'.H) :
    te σ w.H fun x H1 => tl σ H1 fun l H2 => th σ H2 fun u H3 => R x l u H3 := by
  obtain ⟨⟨dx, S1⟩, h1, h2⟩ := bnd h
  obtain ⟨⟨lo, S2⟩, h3, h4⟩ := bnd h2
  obtain ⟨⟨hi, S3⟩, h5, h6⟩ := bnd h4
  refine ha w σ ρ dx S1 o r h1 _ fun x w1 e1 f1 o1 r1 => ?_
  subst e1
  refine hl w1 σ ρ lo S2 o1 (r.fr o f1) h3 _ fun w2 e2 f2 o2 => ?_
  subst e2
  refine hh w2 σ ρ hi S3 o2 (r.fr o (f1.trans f2)) h5 _ fun w3 e3 f3 o3 => ?_
  subst e3
  exact k x dx lo hi w3 ((f1.trans f2).trans f3) o3 (r1.mono (f2.trans f3).mv) h6
theorem se_sl {te : TE} {ea : Ev} {tl th : TO} {el eh : EvO} {r : V → Option Int → Option Int → Hp → VK → Prop} {f : D → Option Int → Option Int → Sto → Option (D × Sto)} (hr : S3 K G r f) (ha : SE K G te ea) (hl : SOo K G tl el) (hh : SOo K G th eh) :
    SE K G (tSl r te tl th) (e3 f ea el eh) := fun w σ ρ d S' o rs h Q k => se_3 ha hl hh o rs h fun x dx lo hi w' f' o' rx q => hr w' x dx lo hi d S' o' rx q Q (Kd.from k f')
theorem sf_sl {te : TE} {ea : Ev} {tl th : TO} {el eh : EvO} {r : V → Option Int → Option Int → Hp → VK → Prop} {f : D → Option Int → Option Int → Sto → Option (List D × Sto)} (hr : S3f K G r f) (ha : SE K G te ea) (hl : SOo K G tl el) (hh : SOo K G th eh) :
    SF K G (tSl r te tl th) (e3 f ea el eh) := fun w σ ρ d S' o rs h Q k => se_3 ha hl hh o rs h fun x dx lo hi w' f' o' rx q => hr w' x dx lo hi d S' o' rx q Q (Kf.from k f' o')
def rSlAny (K : PySem.W.Frag) : V → Option Int → Option Int → Hp → VK → Prop := fun x lo hi H Q => rSlS x lo hi H Q ∨ rSlT K x lo hi H Q
theorem sl_any {X : Cx} : SlR X (rSlAny X.K) := sl_str.or sl_tup
theorem RVs.cut {w : Wd} {vs : List V} {ds : List D} (r : RVs K w vs ds) (lo hi : Option Int) : RVs K w (cutV vs lo hi) (cutL ds lo hi) := by
  unfold cutV cutL
  rw [r.length]
  exact (r.drop _).take _
theorem s3_sl : S3 K G (rSlAny K) fSl := fun w x dx lo hi d S' o rx hh Q k => by
  unfold fSl at hh
  split at hh
  · split at hh
    · rename_i z hz
      cases hh
      cases rx
      refine .inl ⟨_, rfl, by rw [str_len]; exact hz, ?_⟩
      have e : cutS ⟨z.toArray⟩ lo hi = ⟨(cutL z lo hi).toArray⟩ := by
        unfold cutS cutL
        rw [str_len]
      rw [e]
      exact Kd.now k o .str
    · cases hh
  · split at hh
    · cases hh
    · rename_i ds hn
      cases hh
      cases rx with
      | tup h1 h2 h3 =>
        refine .inr ⟨_, _, rfl, SqT.of h1, by rw [h3.length]; exact hn, fun p hp => ?_⟩
        exact Kd.tup k o (h3.cut lo hi) hp
  · cases hh
theorem s3f_sl : S3f K G (rSlL K) fSlL := fun w x dx lo hi d S' o rx hh Q k => by
  unfold fSlL at hh
  cases e : lstOf w.S dx with
  | none => rw [e] at hh; cases hh
  | some ds =>
    rw [e] at hh
    cases hh
    obtain ⟨a, vs, rfl, q1, q2⟩ := lstOf_rv o rx e
    exact ⟨a, vs, rfl, SqL.of q1, fun p hp => Kf.new k o (q2.cut lo hi) hp⟩
/-! built-ins -/
theorem RVs.one_of {w : Wd} {xs : List V} {d : D} (r : RVs K w xs [d]) : ∃ v, xs = [v] ∧ RV K w v d := by
  cases r with
  | cons r1 r2 =>
    cases r2
    exact ⟨_, rfl, r1⟩
theorem RVs.two_of {w : Wd} {xs : List V} {d e : D} (r : RVs K w xs [d, e]) : ∃ v u, xs = [v, u] ∧ RV K w v d ∧ RV K w u e := by
  cases r with
  | cons r1 r2 =>
    obtain ⟨u, rfl, r3⟩ := r2.one_of
    exact ⟨_, u, rfl, r1, r3⟩
def rLenAny (K : PySem.W.Frag) : List V → Hp → VK → Prop := fun xs H Q => ∃ x n, xs = [x] ∧ LenV K x H n ∧ Q (.int n) H
theorem scr_sql {w : Wd} {v : V} {ns : List Int} (r : RV K w v (.scr ns)) : ∃ a, v = .ref a ∧ SqL K w.H a (ns.map V.int) := by
  cases r with
  | scr h =>
    refine ⟨_, rfl, ?_⟩
    rcases h with ⟨o, h, _⟩ | h
    · exact .inl (.inr ⟨o, h⟩)
    · exact .inr h
theorem sn_len : SN K G (rLenAny K) fLen := fun w xs ds d S' o r hh Q k => by
  unfold fLen at hh
  split at hh
  · split at hh
    · rename_i z hz
      cases hh
      obtain ⟨v, rfl, r1⟩ := r.one_of
      cases r1
      refine ⟨_, z.length, rfl, (show (⟨z.toArray⟩ : Str).length ≤ sizeLine ∧ z.length = (⟨z.toArray⟩ : Str).length from ⟨by rw [str_len]; exact hz, (str_len z).symm⟩), Kd.now k o .int⟩
    · cases hh
  · rename_i ns
    cases hh
    obtain ⟨v, rfl, r1⟩ := r.one_of
    obtain ⟨a, rfl, h⟩ := scr_sql r1
    exact ⟨_, ns.length, rfl, .inl ⟨_, h, by simp⟩, Kd.now k o .int⟩
  · rename_i d' _ _
    obtain ⟨v, rfl, r1⟩ := r.one_of
    cases e : seqOf w.S d' with
    | none => rw [e] at hh; cases hh
    | some ds' =>
      rw [e] at hh
      cases hh
      obtain ⟨a, vs, rfl, q1, q2⟩ := seqOf_rv o r1 e
      refine ⟨_, ds'.length, rfl, ?_, Kd.now k o .int⟩
      rcases q1 with q1 | q1
      · exact .inl ⟨_, q1, q2.length.symm⟩
      · exact .inr ⟨_, q1, q2.length.symm⟩
  · cases hh
theorem int_nat {n : Int} (h : 0 ≤ n) : ∃ m : Nat, n = (m : Int) := ⟨n.toNat, by omega⟩
theorem str_num (m : Nat) : (Str.ofString (toString ((m : Nat) : Int))) = ⟨(numL m).toArray⟩ := by
  have h := tl_num m
  have e : (Str.ofString (toString ((m : Nat) : Int))).cps.toList = numL m := h
  rw [← e]
def rStrAny : List V → Hp → VK → Prop := fun xs H Q => (∃ i, xs = [.int i] ∧ i.natAbs.log2 < 1920 ∧ Q (.str (toString i)) H) ∨ ∃ a, xs = [.str a] ∧ Q (.str a) H
theorem call_strAny {X : Cx} : CallR X (.type "str") rStrAny := call_str_int.or SkE.call_str_str
theorem sn_str : SN K G rStrAny fStr := fun w xs ds d S' o r hh Q k => by
  unfold fStr at hh
  split at hh
  · split at hh
    · rename_i n hn
      cases hh
      obtain ⟨v, rfl, r1⟩ := r.one_of
      cases r1
      obtain ⟨m, rfl⟩ := int_nat hn.1
      refine .inl ⟨_, rfl, ?_, ?_⟩
      · show m.log2 < 1920
        by_cases h0 : m = 0
        · subst h0
          decide
        · rw [Nat.log2_lt h0]
          have h1 : (m : Int) < 10 ^ 30 := hn.2
          have h2 : m < 10 ^ 30 := by
            have e : ((10 : Int) ^ 30) = ((10 ^ 30 : Nat) : Int) := by norm_cast
            rw [e] at h1
            exact Int.ofNat_lt.mp h1
          exact Nat.lt_of_lt_of_le h2 (by decide +kernel)
      · have e := str_num m
        show Q (.str (Str.ofString (toString ((m : Nat) : Int)))) w.H
        rw [e]
        exact Kd.now k o .str
    · cases hh
  · cases hh
    obtain ⟨v, rfl, r1⟩ := r.one_of
    cases r1
    exact .inr ⟨_, rfl, Kd.now k o .str⟩
  · cases hh
theorem sn_int : SN K G (fun xs H Q => (∃ i, xs = [.int i] ∧ Q (.int i) H) ∨ ∃ k, xs = [.bl k] ∧ Q (.int (if k then 1 else 0)) H) fInt := fun w xs ds d S' o r hh Q k => by
  unfold fInt at hh
  split at hh
  · cases hh
    obtain ⟨v, rfl, r1⟩ := r.one_of
    cases r1
    exact .inl ⟨_, rfl, Kd.now k o .int⟩
  · cases hh
    obtain ⟨v, rfl, r1⟩ := r.one_of
    cases r1
    exact .inr ⟨_, rfl, Kd.now k o .int⟩
  · cases hh
theorem sn_intS : SN K G (fun xs H Q => ∃ a n, xs = [.str a] ∧ PySem.intText? a = some n ∧ a.length ≤ 640 ∧ Q (.int n) H) fIntS := fun w xs ds d S' o r hh Q k => by
  unfold fIntS at hh
  split at hh
  · split at hh
    · rename_i z hz
      cases hh
      obtain ⟨v, rfl, r1⟩ := r.one_of
      cases r1
      obtain ⟨h1, h2, h3⟩ := hz
      have hd : NumText.AllDigits (⟨z.toArray⟩ : Str).cps.toList := fun c hc => by
        have hc' : c ∈ z := by simpa using hc
        exact of_decide_eq_true (List.all_eq_true.mp h1 c hc')
      have e := PySem.intText_digits hd (by simpa using h2) (by rw [str_len]; omega)
      have e2 : (⟨z.toArray⟩ : Str).cps.toList = z := by simp
      rw [e2] at e
      exact ⟨_, _, rfl, e, by rw [str_len]; omega, Kd.now k o .int⟩
    · cases hh
  · cases hh
theorem sn_max2 : SN K G (fun xs H Q => ∃ i j, xs = [.int i, .int j] ∧ Q (.int (if j > i then j else i)) H) fMax2 := fun w xs ds d S' o r hh Q k => by
  unfold fMax2 at hh
  split at hh
  · cases hh
    obtain ⟨v, u, rfl, r1, r2⟩ := r.two_of
    cases r1
    cases r2
    exact ⟨_, _, rfl, Kd.now k o .int⟩
  · cases hh
theorem sn_min2 : SN K G (fun xs H Q => ∃ i j, xs = [.int i, .int j] ∧ Q (.int (if j < i then j else i)) H) fMin2 := fun w xs ds d S' o r hh Q k => by
  unfold fMin2 at hh
  split at hh
  · cases hh
    obtain ⟨v, u, rfl, r1, r2⟩ := r.two_of
    cases r1
    cases r2
    exact ⟨_, _, rfl, Kd.now k o .int⟩
  · cases hh
def rListOfR (K : PySem.W.Frag) : List V → Hp → VK → Prop := fun xs H Q => ∃ p ys, xs = [.ref p] ∧ (SqL K H p ys ∨ SqT K H p ys) ∧ ∀ l, H l = none → Q (.ref l) (upd H l (.lst ys))
theorem snf_listOf : SNf K G (rListOfR K) fListOf := fun w xs ds d S' o r hh Q k => by
  unfold fListOf at hh
  split at hh
  · rename_i ns
    cases hh
    obtain ⟨v, rfl, r1⟩ := r.one_of
    obtain ⟨a, rfl, h⟩ := scr_sql r1
    exact ⟨_, _, rfl, .inl h, fun l hl => Kf.new k o (RVs.of_ints ns) hl⟩
  · rename_i d' _
    obtain ⟨v, rfl, r1⟩ := r.one_of
    cases e : seqOf w.S d' with
    | none => rw [e] at hh; cases hh
    | some ds' =>
      rw [e] at hh
      cases hh
      obtain ⟨a, vs, rfl, q1, q2⟩ := seqOf_rv o r1 e
      exact ⟨_, _, rfl, q1, fun l hl => Kf.new k o q2 hl⟩
  · cases hh
def rTupOfR (K : PySem.W.Frag) : List V → Hp → VK → Prop := fun xs H Q => ∃ p ys, xs = [.ref p] ∧ ((SqL K H p ys ∧ ∀ l, H l = none → Q (.ref l) (upd H l (.tup ys))) ∨ (SqT K H p ys ∧ Q (.ref p) H))
theorem sn_tupOf : SN K G (rTupOfR K) fTupOf := fun w xs ds d S' o r hh Q k => by
  unfold fTupOf at hh
  split at hh
  · cases hh
    obtain ⟨v, rfl, r1⟩ := r.one_of
    cases r1 with
    | tup h1 h2 h3 => exact ⟨_, _, rfl, .inr ⟨SqT.of h1, Kd.now k o (.tup h1 h2 h3)⟩⟩
  · rename_i d' _
    obtain ⟨v, rfl, r1⟩ := r.one_of
    cases e : lstOf w.S d' with
    | none => rw [e] at hh; cases hh
    | some ds' =>
      rw [e] at hh
      cases hh
      obtain ⟨a, vs, rfl, q1, q2⟩ := lstOf_rv o r1 e
      exact ⟨_, _, rfl, .inl ⟨SqL.of q1, fun l hl => Kd.tup k o q2 hl⟩⟩
  · cases hh
theorem ty_kit {T n : String} (hT : okT T = true) (hn : n = "NoneType" ∨ n = "bool" ∨ n = "int" ∨ n = "str" ∨ n = "tuple" ∨ n = "list" ∨ n = "dict") : PySem.W.kitOne K (.type n) (.type T) = some (isT T n) := by
  apply kit_ty
  have hT' : T = "int" ∨ T = "bool" ∨ T = "str" ∨ T = "list" ∨ T = "tuple" := by
    unfold okT at hT
    simp only [Bool.or_eq_true, beq_iff_eq] at hT
    rcases hT with (((h | h) | h) | h) | h <;> simp [h]
  rcases hT' with rfl | rfl | rfl | rfl | rfl <;> rcases hn with rfl | rfl | rfl | rfl | rfl | rfl | rfl <;> decide +kernel
theorem tyName_rv {w : Wd} {v : V} {d : D} {n : String} (o : Ok K G w) (r : RV K w v d) (h : tyName w.S d = some n) : TyX K w.H v (.type n) ∧ (n = "NoneType" ∨ n = "bool" ∨ n = "int" ∨ n = "str" ∨ n = "tuple" ∨ n = "list" ∨ n = "dict") := by
  cases d with
  | non => cases r; cases h; exact ⟨.base .non, by simp⟩
  | bl b => cases r; cases h; exact ⟨.base (.bl b), by simp⟩
  | int b => cases r; cases h; exact ⟨.base (.int b), by simp⟩
  | str b => cases r; cases h; exact ⟨.base (.str _), by simp⟩
  | tup b => cases r with
    | tup h1 h2 h3 => cases h; exact ⟨.base (.tup h1), by simp⟩
  | lst b => cases r with
    | lst h1 h2 h3 => cases h; exact ⟨.base (.lst h1), by simp⟩
  | ref l =>
    dsimp only [tyName] at h
    cases e : w.S.get l with
    | none => rw [e] at h; cases h
    | some u =>
      rw [e] at h
      obtain ⟨a, h1, h2⟩ := o.obj l u e
      cases r with
      | ref h3 =>
        rw [h1] at h3
        cases h3
        cases u with
        | lst ds =>
          cases h
          obtain ⟨vs, q, _⟩ := h2
          exact ⟨.base (.lst q), by simp⟩
        | dic lk kvs =>
          cases h
          refine ⟨?_, by simp⟩
          cases lk with
          | false => obtain ⟨vs, q, _⟩ := h2; exact .base (.dK q)
          | true => obtain ⟨vs, ⟨od, q⟩, _⟩ := h2; exact .fDict q
        | dit lk kvs =>
          cases lk with
          | false =>
            cases h
            refine ⟨?_, by simp⟩
            obtain ⟨vs, q, _⟩ := h2
            exact .base (.dT q)
          | true => cases h
        | _ => cases h
  | _ => cases h
theorem sn_isT : SN K G (rIsi K) fIsT := fun w xs ds d S' o r hh Q k => by
  unfold fIsT at hh
  split at hh
  · split at hh
    · rename_i d' T hT
      obtain ⟨v, u, rfl, r1, r2⟩ := r.two_of
      cases e : tyName w.S d' with
      | none => rw [e] at hh; cases hh
      | some n =>
        rw [e] at hh
        cases hh
        obtain ⟨q1, q2⟩ := tyName_rv o r1 e
        cases r2
        exact ⟨v, _, _, _, _, rfl, .ty T, q1, ty_kit hT q2, Kd.now k o .bl⟩
    · cases hh
  · cases hh
end
end AH

set_option maxRecDepth 100000
set_option maxHeartbeats 2000000
namespace AH
open PySem L2 TL

/-! ### methods of texts -/
def splitC (c : Nat) : List Nat → List (List Nat)
  | [] => [[]]
  | x :: xs => if x = c then [] :: splitC c xs else match splitC c xs with
    | [] => [[x]]
    | p :: ps => (x :: p) :: ps
theorem splitC_ne (c : Nat) : ∀ l, splitC c l ≠ []
  | [] => by simp [splitC]
  | x :: xs => by
    unfold splitC
    split
    · simp
    · split <;> simp
theorem pre_hit (c : Nat) (r : List Nat) : pre [c] (c :: r) = true := by simp [pre]
theorem spl_split (c : Nat) : ∀ (l acc : List Nat), spl [c] 0 acc l = match splitC c l with
    | [] => [acc]
    | p :: ps => (acc ++ p) :: ps
  | [], acc => by
    rw [spl_nil]
    simp [splitC]
  | x :: xs, acc => by
    by_cases h : x = c
    · subst h
      rw [spl_hit (pre_hit x xs)]
      have e := spl_split x xs []
      show acc :: spl [x] 0 [] xs = _
      rw [e]
      have e2 : splitC x (x :: xs) = [] :: splitC x xs := by rw [splitC, if_pos rfl]
      rw [e2]
      cases q : splitC x xs with
      | nil => exact absurd q (splitC_ne x xs)
      | cons p ps => simp
    · rw [spl_miss (pre_of_head [] xs h), spl_split c xs]
      conv => rhs; unfold splitC
      rw [if_neg h]
      cases q : splitC c xs with
      | nil => exact absurd q (splitC_ne c xs)
      | cons p ps => simp
theorem split_is {z : List Nat} {c : Nat} (h : c < 256) : Txt.split ⟨z.toArray⟩ ⟨#[c]⟩ = (splitC c z).map fun p => (⟨p.toArray⟩ : Str) := by
  apply map_tl_inj
  rw [split_spl _ _ (by simp [tl]) (kind_ok (by simp; exact h))]
  show spl [c] 0 [] z = _
  rw [spl_split]
  cases q : splitC c z with
  | nil => exact absurd q (splitC_ne c z)
  | cons p ps =>
    rw [List.map_map]
    simp [Function.comp_def, tl]
def fSplit (a : D) (bs : List D) (S : Sto) : Option (List D × Sto) := match a, bs with
  | .str z, [.str [c]] => if c < 256 ∧ z.length + 2 ≤ sizeLine then some ((splitC c z).map D.str, S) else none
  | _, _ => none
def strsOf : List D → Option (List (List Nat))
  | [] => some []
  | .str z :: ds => (strsOf ds).map (z :: ·)
  | _ => none
def joinD (s : List Nat) : List (List Nat) → List Nat
  | [] => []
  | [p] => p
  | p :: q :: r => p ++ (s ++ joinD s (q :: r))
def fJoin (a : D) (bs : List D) (S : Sto) : Option (D × Sto) := match a, bs with
  | .str s, [b] => (seqOf S b).bind fun ds => (strsOf ds).bind fun zs => if (zs.map (·.length)).sum + zs.length * s.length ≤ 16777216 then some (.str (joinD s zs), S) else none
  | _, _ => none
def fCount (a : D) (bs : List D) (S : Sto) : Option (D × Sto) := match a, bs with
  | .str z, [.str [c]] => some (.int (z.count c), S)
  | _, _ => none
def fIndexS (a : D) (bs : List D) (S : Sto) : Option (D × Sto) := match a, bs with
  | .str z, [.str [c]] => if c ∈ z then some (.int (z.idxOf c), S) else none
  | _, _ => none

section
variable {K : PySem.W.Frag} {G : Gx}
def SM (K : PySem.W.Frag) (G : Gx) (r : V → List V → Hp → VK → Prop) (f : D → List D → Sto → Option (D × Sto)) : Prop := ∀ w x dx xs ds d S', Ok K G w → RV K w x dx → RVs K w xs ds → f dx ds w.S = some (d, S') → ∀ Q, Kd K G w d S' Q → r x xs w.H Q
def SMf (K : PySem.W.Frag) (G : Gx) (r : V → List V → Hp → VK → Prop) (f : D → List D → Sto → Option (List D × Sto)) : Prop := ∀ w x dx xs ds d S', Ok K G w → RV K w x dx → RVs K w xs ds → f dx ds w.S = some (d, S') → ∀ Q, Kf K G w d S' Q → r x xs w.H Q
/-- the receiver is a text -/
def onStr {α : Type} (f : D → List D → Sto → Option (α × Sto)) : D → List D → Sto → Option (α × Sto) := fun d ds S => match d with
  | .str z => f (.str z) ds S
  | _ => none
theorem se_m1 {α : Type} {to te : TE} {eo ea : Ev} {f : D → List D → Sto → Option (α × Sto)} (ho : SE K G to eo) (ha : SE K G te ea) {w : Wd} {σ : St} {ρ : Rho} {z : α} {S' : Sto} (o : Ok K G w) (r : RS K w σ ρ)
    (h : (fun ρ S => (eo ρ S).bind fun x => match x.1 with | .str c => (ea ρ x.2).bind fun y => f (.str c) [y.1] y.2 | _ => none : Rho → Sto → Option (α × Sto)) ρ w.S = some (z, S')) {R : V → V → Hp → Prop}
    (k : ∀ x y dx dy w', Fr w w' → Ok K G w' → RV K w' x dx → RV K w' y dy → f dx [dy] w'.S = some (z, S') → R x y w'.H) : to σ w.H fun x H1 => (∃ a, x = .str a) ∧ te σ H1 fun y H2 => R x y H2 := by
  obtain ⟨⟨dx, S1⟩, h1, h2⟩ := bnd h
  refine ho w σ ρ dx S1 o r h1 _ fun x w1 e1 f1 o1 r1 => ?_
  subst e1
  cases dx with
  | str c =>
    obtain ⟨⟨dy, S2⟩, h3, h4⟩ := bnd h2
    refine ⟨⟨⟨c.toArray⟩, by cases r1; rfl⟩, ha w1 σ ρ dy S2 o1 (r.fr o f1) h3 _ fun y w2 e2 f2 o2 r2 => ?_⟩
    subst e2
    exact k x y _ dy w2 (f1.trans f2) o2 (r1.mono f2.mv) r2 h4
  | _ => cases h2
def eM1 {α : Type} (f : D → List D → Sto → Option (α × Sto)) (eo ea : Ev) : Rho → Sto → Option (α × Sto) := fun ρ S => (eo ρ S).bind fun x => match x.1 with
  | .str c => (ea ρ x.2).bind fun y => f (.str c) [y.1] y.2
  | _ => none
theorem se_tm1 {r : V → List V → Hp → VK → Prop} {to te : TE} {eo ea : Ev} {f : D → List D → Sto → Option (D × Sto)} (hr : SM K G r f) (ho : SE K G to eo) (ha : SE K G te ea) : SE K G (tM1 r to te) (eM1 f eo ea) := fun w σ ρ d S' o rs h Q k =>
  se_m1 ho ha o rs h fun x y dx dy w' f' o' rx ry q => hr w' x dx [y] [dy] d S' o' rx (.one ry) q Q (Kd.from k f')
theorem sf_tm1 {r : V → List V → Hp → VK → Prop} {to te : TE} {eo ea : Ev} {f : D → List D → Sto → Option (List D × Sto)} (hr : SMf K G r f) (ho : SE K G to eo) (ha : SE K G te ea) : SF K G (tM1 r to te) (eM1 f eo ea) := fun w σ ρ d S' o rs h Q k =>
  se_m1 ho ha o rs h fun x y dx dy w' f' o' rx ry q => hr w' x dx [y] [dy] d S' o' rx (.one ry) q Q (Kf.from k f' o')
theorem smf_split : SMf K G (fun x xs H Q => ∃ a b, x = .str a ∧ xs = [.str b] ∧ (b.length == 0) = false ∧ a.length + 2 ≤ sizeLine ∧ rNewStrs (Txt.split a b) H Q) fSplit := fun w x dx xs ds d S' o rx r hh Q k => by
  unfold fSplit at hh
  split at hh
  · split at hh
    · rename_i z c hz
      cases hh
      cases rx
      obtain ⟨v, rfl, r1⟩ := r.one_of
      cases r1
      refine ⟨_, _, rfl, rfl, by rfl, by rw [str_len]; exact hz.2, fun p hp => ?_⟩
      have e : Txt.split ⟨z.toArray⟩ ⟨[c].toArray⟩ = (splitC c z).map fun p => (⟨p.toArray⟩ : Str) := split_is hz.1
      rw [e]
      exact Kf.new k o (RVs.of_strs _) hp
    · cases hh
  · cases hh
theorem strsOf_rv {w : Wd} : ∀ {ds : List D} {vs : List V} {zs : List (List Nat)}, RVs K w vs ds → strsOf ds = some zs → vs = (zs.map fun z => (⟨z.toArray⟩ : Str)).map V.str
  | [], _, _, r, h => by cases r; cases h; rfl
  | d :: ds, _, zs, r, h => by
    cases r with
    | cons r1 r2 =>
      cases d with
      | str z =>
        rw [strsOf] at h
        cases e : strsOf ds with
        | none => rw [e] at h; cases h
        | some ys =>
          rw [e] at h
          cases h
          cases r1
          rw [strsOf_rv r2 e]
          rfl
      | _ => rw [strsOf] at h <;> first | cases h | (intros; intro z; cases z)
theorem joinD_eq (s : List Nat) : ∀ zs, joinD s zs = joinL s zs
  | [] => rfl
  | [_] => rfl
  | p :: q :: r => by
    show p ++ (s ++ joinD s (q :: r)) = p ++ (s ++ joinL s (q :: r))
    rw [joinD_eq s (q :: r)]
theorem join_is (s : List Nat) (zs : List (List Nat)) : Txt.join ⟨s.toArray⟩ (zs.map fun z => (⟨z.toArray⟩ : Str)) = ⟨(joinD s zs).toArray⟩ := by
  apply ext_tl
  rw [join_eq, tl_join, joinD_eq]
  simp [tl, List.map_map, Function.comp_def]
theorem sm_join : SM K G (fun x xs H Q => ∃ a p, ∃ ys : List Str, x = .str a ∧ xs = [.ref p] ∧ (SqL K H p (ys.map V.str) ∨ SqT K H p (ys.map V.str)) ∧ (ys.map (·.length)).sum + ys.length * a.length ≤ 16777216 ∧ Q (.str (Txt.join a ys)) H) fJoin := fun w x dx xs ds d S' o rx r hh Q k => by
  unfold fJoin at hh
  split at hh
  · rename_i s b
    obtain ⟨es, h1, h2⟩ := bnd hh
    obtain ⟨zs, h3, h4⟩ := bnd h2
    split at h4
    · rename_i hz
      cases h4
      cases rx
      obtain ⟨v, rfl, r1⟩ := r.one_of
      obtain ⟨a, vs, rfl, q1, q2⟩ := seqOf_rv o r1 h1
      have e := strsOf_rv q2 h3
      subst e
      refine ⟨_, a, _, rfl, rfl, q1, ?_, ?_⟩
      · rw [List.map_map, List.length_map, str_len]
        have e2 : ((fun x : Str => x.length) ∘ fun z : List Nat => (⟨z.toArray⟩ : Str)) = fun z : List Nat => z.length := by
          funext z
          exact str_len z
        rw [e2]
        exact hz
      · rw [join_is]
        exact Kd.now k o .str
    · cases h4
  · cases hh
theorem cnt_count (c : Nat) : ∀ l : List Nat, PyProof.Rows.cnt c l = ((l.count c : Nat) : Int)
  | [] => rfl
  | n :: r => by
    rw [PyProof.Rows.cnt_cons, cnt_count c r, List.count_cons]
    by_cases h : n = c
    · subst h
      simp
      omega
    · have : (n == c) = false := by simpa using h
      rw [this, if_neg h]
      simp
theorem sm_count : SM K G (fun x xs H Q => ∃ a b, x = .str a ∧ xs = [.str b] ∧ Q (.int (Txt.count a b)) H) fCount := fun w x dx xs ds d S' o rx r hh Q k => by
  unfold fCount at hh
  split at hh
  · rename_i z c
    cases hh
    cases rx
    obtain ⟨v, rfl, r1⟩ := r.one_of
    cases r1
    refine ⟨_, _, rfl, rfl, ?_⟩
    have e : Txt.count ⟨z.toArray⟩ ⟨[c].toArray⟩ = ((z.count c : Nat) : Int) := by
      have := PyProof.Rows.count_is ⟨z.toArray⟩ c
      have h2 := cnt_count c z
      unfold PyProof.Rows.cnt at h2
      rw [← h2]
      simpa using this
    rw [e]
    exact Kd.now k o .int
  · cases hh
theorem idx_is {z : List Nat} {c : Nat} (h : c ∈ z) : ∃ rest, Builtin.Str.occurrences ⟨z.toArray⟩ ⟨#[c]⟩ 0 (⟨z.toArray⟩ : Str).length 1 = z.idxOf c :: rest := by
  rcases StrLaws.occ_head ⟨z.toArray⟩ ⟨#[c]⟩ 1 (Nat.le_refl 1) with ⟨h0, hn⟩ | ⟨i, r, h0, hi, hn⟩
  · exfalso
    obtain ⟨j, hj⟩ := List.getElem?_of_mem h
    exact hn j ((StrLaws.subAt_one ⟨z.toArray⟩ c j).mpr hj)
  · refine ⟨r, ?_⟩
    rw [h0]
    congr 1
    have hi' : z[i]? = some c := (StrLaws.subAt_one ⟨z.toArray⟩ c i).mp hi
    have hlt : z.idxOf c < z.length := List.idxOf_lt_length_of_mem h
    have hg : z[z.idxOf c]? = some c := by
      rw [List.getElem?_eq_getElem hlt]
      congr 1
      exact List.getElem_idxOf hlt
    rcases Nat.lt_trichotomy i (z.idxOf c) with q | q | q
    · exfalso
      obtain ⟨hl, he⟩ := List.getElem?_eq_some_iff.mp hi'
      have := List.not_of_lt_findIdx (p := fun x => x == c) (xs := z) (i := i) (by simpa [List.idxOf] using q)
      simp [he] at this
    · exact q
    · exact absurd ((StrLaws.subAt_one ⟨z.toArray⟩ c (z.idxOf c)).mpr hg) (hn _ q)
theorem sm_index : SM K G (fun x xs H Q => ∃ a b i rest, x = .str a ∧ xs = [.str b] ∧ Builtin.Str.occurrences a b 0 a.length 1 = i :: rest ∧ Q (.int (i : Nat)) H) fIndexS := fun w x dx xs ds d S' o rx r hh Q k => by
  unfold fIndexS at hh
  split at hh
  · split at hh
    · rename_i z c hc
      cases hh
      cases rx
      obtain ⟨v, rfl, r1⟩ := r.one_of
      cases r1
      obtain ⟨rest, e⟩ := idx_is hc
      exact ⟨_, _, _, rest, rfl, rfl, e, Kd.now k o .int⟩
    · cases hh
  · cases hh
end
end AH

set_option maxRecDepth 100000
set_option maxHeartbeats 2000000
namespace AH
open PySem L2 TL

/-! ### statements -/
inductive Fl where
  | nx | bk | ct | rt (d : D) | rf (ds : List D)
abbrev EvS := Rho → Sto → Option (Fl × Rho × Sto)
def accAt (σ : St) (ρ : Rho) (a : Addr) : Prop := ∃ (i : Nat) (ds : List D), ρ[i]? = some (Sl.acc ds) ∧ σ[i]? = some (some (V.ref a))

structure SR (K : PySem.W.Frag) (G : Gx) (w0 w : Wd) (σ : St) (ρ : Rho) : Prop where
  ok : Ok K G w
  rs : RS K w σ ρ
  io : ∀ l a, w0.io l = some a → w.io l = some a
  hp : ∀ a o, w0.H a = some o → ¬ w0.U a → w.H a = some o ∧ ¬ w.U a
  fz : ∀ a o u, w0.H a = some (.frz o u) → w.H a = some (.frz o u)
  bb : ∀ a, w.B a ↔ (w0.B a ∨ accAt σ ρ a)
  fr : ∀ a, accAt σ ρ a → w0.H a = none
  dj : ∀ (i j : Nat) (ds es : List D) (a : Addr), ρ[i]? = some (Sl.acc ds) → ρ[j]? = some (Sl.acc es) → σ[i]? = some (some (V.ref a)) → σ[j]? = some (some (V.ref a)) → i = j
  b0 : ∀ a, w0.B a → ∃ o, w0.H a = some o

section
variable {K : PySem.W.Frag} {G : Gx} {w0 w w' : Wd} {σ : St} {ρ : Rho}
theorem SR.step (s : SR K G w0 w σ ρ) (f : Fr w w') (o : Ok K G w') : SR K G w0 w' σ ρ :=
  ⟨o, s.rs.fr s.ok f, fun l a h => f.io l a (s.io l a h), fun a u h k => let ⟨h1, k1⟩ := s.hp a u h k; f.hp a u h1 k1, fun a q u h => f.fz a q u (s.fz a q u h), fun a => by rw [f.bb]; exact s.bb a, s.fr, s.dj, s.b0⟩
def Post (K : PySem.W.Frag) (G : Gx) (w0 w : Wd) (D : Ends) (f : Fl) (ρ' : Rho) (S' : Sto) : Prop := match f with
  | .nx => ∀ σ' w', w'.S = S' → Mv w w' → SR K G w0 w' σ' ρ' → D.nx σ' w'.H
  | .bk => ∀ σ' w', w'.S = S' → Mv w w' → SR K G w0 w' σ' ρ' → D.bk σ' w'.H
  | .ct => ∀ σ' w', w'.S = S' → Mv w w' → SR K G w0 w' σ' ρ' → D.ct σ' w'.H
  | .rt d => ∀ v w', w'.S = S' → Fr w0 w' → Ok K G w' → RV K w' v d → D.rt v w'.H
  | .rf ds => ∀ p vs w', w'.S = S' → Fr w0 w' → w0.H p = none → Ok K G (w'.ban p) → w'.H p = some (.lst vs) → RVs K (w'.ban p) vs ds → D.rt (.ref p) w'.H
def SS (K : PySem.W.Frag) (G : Gx) (ts : TS) (run : EvS) : Prop := ∀ w0 w σ ρ f ρ' S', SR K G w0 w σ ρ → run ρ w.S = some (f, ρ', S') → ∀ D : Ends, Post K G w0 w D f ρ' S' → ts D σ w.H
theorem Post.from {D : Ends} {f : Fl} {ρ' : Rho} {S' : Sto} (p : Post K G w0 w D f ρ' S') (m : Mv w w') : Post K G w0 w' D f ρ' S' := by
  cases f with
  | nx => exact fun σ' w2 e m2 s => p σ' w2 e (m.trans m2) s
  | bk => exact fun σ' w2 e m2 s => p σ' w2 e (m.trans m2) s
  | ct => exact fun σ' w2 e m2 s => p σ' w2 e (m.trans m2) s
  | rt d => exact p
  | rf ds => exact p
end

def sNext : EvS := fun ρ S => some (.nx, ρ, S)
def sBrk : EvS := fun ρ S => some (.bk, ρ, S)
def sCnt : EvS := fun ρ S => some (.ct, ρ, S)
def sNever : EvS := fun _ _ => none
def sSeq (a b : EvS) : EvS := fun ρ S => (a ρ S).bind fun x => match x with
  | (.nx, ρ1, S1) => b ρ1 S1
  | r => some r
def sIf (t : EvT) (a b : EvS) : EvS := fun ρ S => (t ρ S).bind fun x => if x.1 = true then a ρ x.2 else b ρ x.2
def sDo (e : Ev) : EvS := fun ρ S => (e ρ S).bind fun x => some (.nx, ρ, x.2)
def sRet (e : Ev) : EvS := fun ρ S => (e ρ S).bind fun x => some (.rt x.1, ρ, x.2)
def sRetN : EvS := fun ρ S => some (.rt .non, ρ, S)
def sRetF (e : EvL) : EvS := fun ρ S => (e ρ S).bind fun x => some (.rf x.1, ρ, x.2)
def sRetA (i : Nat) : EvS := fun ρ S => match ρ[i]? with
  | some (.acc ds) => some (.rf ds, ρ, S)
  | _ => none
/-- targets -/
abbrev EvG := D → Rho → Sto → Option (Rho × Sto)
def gNm (i : Nat) : EvG := fun d ρ S => if i < ρ.length then some (ρ.set i (.val d), S) else none
abbrev EvGs := List D → Rho → Sto → Option (Rho × Sto)
def gsNil : EvGs := fun ds ρ S => match ds with
  | [] => some (ρ, S)
  | _ => none
def gsCons (g : EvG) (h : EvGs) : EvGs := fun ds ρ S => match ds with
  | d :: r => (g d ρ S).bind fun x => h r x.1 x.2
  | _ => none
def gTp (n : Nat) (h : EvGs) : EvG := fun d ρ S => match d with
  | .tup ds => if ds.length = n then h ds ρ S else none
  | _ => none
def sAsg (e : Ev) (g : EvG) : EvS := fun ρ S => (e ρ S).bind fun x => (g x.1 ρ x.2).bind fun y => some (.nx, y.1, y.2)
def sAcc (i : Nat) (e : EvL) : EvS := fun ρ S => (e ρ S).bind fun x => if i < ρ.length then some (.nx, ρ.set i (.acc x.1), x.2) else none
def frz (i : Nat) (ρ : Rho) : Rho := match ρ[i]? with
  | some (.acc ds) => ρ.set i (.val (.lst ds))
  | _ => ρ
def sFrz (i : Nat) (s : EvS) : EvS := fun ρ S => s (frz i ρ) S
def sApp (i : Nat) (e : Ev) : EvS := fun ρ S => (e ρ S).bind fun x => match ρ[i]? with
  | some (.acc ds) => if ds.length < sizeLine then some (.nx, ρ.set i (.acc (ds ++ [x.1])), x.2) else none
  | _ => none
def sExtend (i : Nat) (e : EvL) : EvS := fun ρ S => (e ρ S).bind fun x => match ρ[i]? with
  | some (.acc ds) => if ds.length + x.1.length ≤ sizeLine then some (.nx, ρ.set i (.acc (ds ++ x.1)), x.2) else none
  | _ => none
def sPar (i j : Nat) (a b : Ev) : EvS := fun ρ S => (a ρ S).bind fun x => (b ρ x.2).bind fun y => if i < ρ.length ∧ j < ρ.length then some (.nx, (ρ.set i (.val x.1)).set j (.val y.1), y.2) else none

section
variable {K : PySem.W.Frag} {G : Gx} {t u : TS} {a b : EvS} {te : TE} {ea : Ev} {el : EvL} {tt : TT} {et : EvT}
theorem ss_next : SS K G tNext sNext := fun w0 w σ ρ f ρ' S' s h D p => by
  cases h
  exact p σ w rfl (Mv.refl w) s
theorem ss_brk : SS K G tBreak sBrk := fun w0 w σ ρ f ρ' S' s h D p => by
  cases h
  exact p σ w rfl (Mv.refl w) s
theorem ss_cnt : SS K G tCont sCnt := fun w0 w σ ρ f ρ' S' s h D p => by
  cases h
  exact p σ w rfl (Mv.refl w) s
theorem ss_never : SS K G tNever sNever := fun w0 w σ ρ f ρ' S' s h D p => by cases h
theorem ss_seq (ha : SS K G t a) (hb : SS K G u b) : SS K G (tSeq t u) (sSeq a b) := fun w0 w σ ρ f ρ' S' s h D p => by
  obtain ⟨⟨f1, ρ1, S1⟩, h1, h2⟩ := bnd h
  refine ha w0 w σ ρ f1 ρ1 S1 s h1 { D with nx := u D } ?_
  cases f1 with
  | nx =>
    intro σ' w' e m s'
    subst e
    exact hb w0 w' σ' ρ1 f ρ' S' s' h2 D (p.from m)
  | bk => cases h2; exact p
  | ct => cases h2; exact p
  | rt d => cases h2; exact p
  | rf ds => cases h2; exact p
theorem ss_if (ht : STt K G tt et) (ha : SS K G t a) (hb : SS K G u b) : SS K G (tIfS tt t u) (sIf et a b) := fun w0 w σ ρ f ρ' S' s h D p => by
  obtain ⟨⟨c, S1⟩, h1, h2⟩ := bnd h
  refine ht w σ ρ c S1 s.ok s.rs h1 _ fun w1 e1 f1 o1 => ?_
  subst e1
  cases c with
  | true => exact ha w0 w1 σ ρ f ρ' S' (s.step f1 o1) h2 D (p.from f1.mv)
  | false => exact hb w0 w1 σ ρ f ρ' S' (s.step f1 o1) h2 D (p.from f1.mv)
theorem ss_do (he : SE K G te ea) : SS K G (tDrop te) (sDo ea) := fun w0 w σ ρ f ρ' S' s h D p => by
  obtain ⟨⟨c, S1⟩, h1, h2⟩ := bnd h
  cases h2
  exact he w σ ρ c _ s.ok s.rs h1 _ fun v w1 e1 f1 o1 r1 => p σ w1 e1 f1.mv (s.step f1 o1)
/-- back to what the entry bars -/
theorem SR.out {w0 w : Wd} {σ : St} {ρ : Rho} (s : SR K G w0 w σ ρ) : Fr w0 (w.withB w0.B) ∧ Ok K G (w.withB w0.B) ∧ Mv w (w.withB w0.B) :=
  ⟨⟨s.io, s.hp, s.fz, rfl⟩, s.ok.shrink fun a h => (s.bb a).mpr (.inl h), Mv.shrink fun a h => (s.bb a).mpr (.inl h)⟩
theorem ss_ret (he : SE K G te ea) : SS K G (tRet te) (sRet ea) := fun w0 w σ ρ f ρ' S' s h D p => by
  obtain ⟨⟨c, S1⟩, h1, h2⟩ := bnd h
  cases h2
  refine he w σ ρ c _ s.ok s.rs h1 _ fun v w1 e1 f1 o1 r1 => ?_
  obtain ⟨q1, q2, q3⟩ := (s.step f1 o1).out
  exact p v (w1.withB w0.B) e1 q1 q2 (r1.mono q3)
theorem ss_retN : SS K G tRetN sRetN := fun w0 w σ ρ f ρ' S' s h D p => by
  cases h
  obtain ⟨q1, q2, q3⟩ := s.out
  exact p .non (w.withB w0.B) rfl q1 q2 .non
theorem SR.free0 {w0 w : Wd} {σ : St} {ρ : Rho} (s : SR K G w0 w σ ρ) {p : Addr} (h : w.H p = none) : w0.H p = none := by
  cases e : w0.H p with
  | none => rfl
  | some o =>
    by_cases u : w0.U p
    · obtain ⟨l, q⟩ := u
      obtain ⟨o', q⟩ := s.ok.uh ⟨l, s.io l p q⟩
      rw [h] at q
      cases q
    · rw [(s.hp p o e u).1] at h
      cases h
theorem ss_retF (he : SF K G te el) : SS K G (tRet te) (sRetF el) := fun w0 w σ ρ f ρ' S' s h D p => by
  obtain ⟨⟨c, S1⟩, h1, h2⟩ := bnd h
  cases h2
  refine he w σ ρ c _ s.ok s.rs h1 _ fun q vs w1 e1 f1 n1 o1 hq r1 => ?_
  have s1 := s.step f1 o1.unban
  obtain ⟨q1, q2, q3⟩ := s1.out
  have sh : ∀ a, ((w1.withB w0.B).ban q).B a → (w1.ban q).B a := fun a z => by
    rcases z with z | z
    · exact .inl ((s1.bb a).mpr (.inl z))
    · exact .inr z
  exact p q vs (w1.withB w0.B) e1 q1 (s.free0 n1) (o1.shrink (B := ((w1.withB w0.B).ban q).B) sh) hq (r1.mono (Mv.shrink (w := w1.ban q) (B := ((w1.withB w0.B).ban q).B) sh))
theorem ss_retA {i : Nat} : SS K G (tRet (tVar i)) (sRetA i) := fun w0 w σ ρ f ρ' S' s h D p => by
  unfold sRetA at h
  split at h
  · rename_i ds e
    cases h
    obtain ⟨a, vs, h1, h2, h3, h4⟩ := s.rs.acc i _ e
    refine ⟨_, h1, ?_⟩
    obtain ⟨q1, q2, q3⟩ := s.out
    have sh : ∀ b, ((w.withB w0.B).ban a).B b → w.B b := fun b z => by
      rcases z with z | z
      · exact (s.bb b).mpr (.inl z)
      · rw [z]
        exact h4
    exact p a vs (w.withB w0.B) rfl q1 (s.fr a ⟨i, _, e, h1⟩) (s.ok.shrink (B := ((w.withB w0.B).ban a).B) sh) h2 (h3.mono (Mv.shrink (w := w) (B := ((w.withB w0.B).ban a).B) sh))
  · cases h

/-! ### slots stored -/
theorem get_set_ne {α : Type} {l : List α} {i j : Nat} {x : α} (h : i ≠ j) : (l.set i x)[j]? = l[j]? := by
  rw [List.getElem?_set, if_neg h]
theorem get_set_eq {α : Type} {l : List α} {i : Nat} {x y : α} (h : (l.set i x)[i]? = some y) : y = x ∧ i < l.length := by
  rw [List.getElem?_set, if_pos rfl] at h
  split at h
  · rename_i q
    cases h
    exact ⟨rfl, q⟩
  · cases h
/-- the bars by the slots as they are now -/
def Wd.bars (w w0 : Wd) (σ : St) (ρ : Rho) : Wd := w.withB fun a => w0.B a ∨ accAt σ ρ a
theorem SR.setv {w0 w : Wd} {σ : St} {ρ : Rho} (s : SR K G w0 w σ ρ) {i : Nat} {v : V} {d : D} (r : RV K w v d) (hi : i < ρ.length) :
    Mv w (w.bars w0 (σ.set i (some v)) (ρ.set i (.val d))) ∧ SR K G w0 (w.bars w0 (σ.set i (some v)) (ρ.set i (.val d))) (σ.set i (some v)) (ρ.set i (.val d)) := by
  have back : ∀ j ds, (ρ.set i (Sl.val d))[j]? = some (Sl.acc ds) → j ≠ i ∧ ρ[j]? = some (Sl.acc ds) := fun j ds h => by
    by_cases q : i = j
    · subst q
      have z := (get_set_eq h).1
      cases z
    · rw [get_set_ne q] at h
      exact ⟨fun z => q z.symm, h⟩
  have ac : ∀ a, accAt (σ.set i (some v)) (ρ.set i (Sl.val d)) a → accAt σ ρ a := fun a ⟨j, ds, h1, h2⟩ => by
    obtain ⟨n, h3⟩ := back j ds h1
    rw [get_set_ne (Ne.symm n)] at h2
    exact ⟨j, ds, h3, h2⟩
  have sh : ∀ a, (w0.B a ∨ accAt (σ.set i (some v)) (ρ.set i (Sl.val d)) a) → w.B a := fun a z => (s.bb a).mpr (z.imp_right (ac a))
  have m : Mv w (w.bars w0 (σ.set i (some v)) (ρ.set i (.val d))) := Mv.shrink sh
  refine ⟨m, s.ok.shrink sh, ⟨?_, ?_, ?_⟩, s.io, s.hp, s.fz, fun a => Iff.rfl, fun a z => s.fr a (ac a z), ?_, s.b0⟩
  · rw [List.length_set, List.length_set]
    exact s.rs.len
  · intro j e h
    by_cases q : i = j
    · subst q
      have z := (get_set_eq h).1
      cases z
      refine ⟨v, ?_, r.mono m⟩
      rw [List.getElem?_set, if_pos rfl, if_pos (by rw [s.rs.len]; exact hi)]
    · rw [get_set_ne q] at h
      obtain ⟨u, h1, h2⟩ := s.rs.val j e h
      exact ⟨u, by rw [get_set_ne q]; exact h1, h2.mono m⟩
  · intro j ds h
    obtain ⟨n, h3⟩ := back j ds h
    obtain ⟨a, vs, h4, h5, h6, h7⟩ := s.rs.acc j ds h3
    have h8 : (σ.set i (some v))[j]? = some (some (V.ref a)) := by rw [get_set_ne (Ne.symm n)]; exact h4
    exact ⟨a, vs, h8, h5, h6.mono m, .inr ⟨j, ds, h, h8⟩⟩
  · intro j k ds es a h1 h2 h3 h4
    obtain ⟨n1, q1⟩ := back j ds h1
    obtain ⟨n2, q2⟩ := back k es h2
    rw [get_set_ne (Ne.symm n1)] at h3
    rw [get_set_ne (Ne.symm n2)] at h4
    exact s.dj j k ds es a q1 q2 h3 h4
/-- a new list, held by one name alone -/
theorem SR.seta {w0 w : Wd} {σ : St} {ρ : Rho} (s : SR K G w0 w σ ρ) {i : Nat} {p : Addr} {w1 : Wd} {vs : List V} {ds : List D} (f : Fr w w1) (n : w.H p = none) (o : Ok K G (w1.ban p)) (h : w1.H p = some (.lst vs)) (r : RVs K (w1.ban p) vs ds) (hi : i < ρ.length) :
    Mv w (w1.bars w0 (σ.set i (some (V.ref p))) (ρ.set i (.acc ds))) ∧ SR K G w0 (w1.bars w0 (σ.set i (some (V.ref p))) (ρ.set i (.acc ds))) (σ.set i (some (V.ref p))) (ρ.set i (.acc ds)) := by
  have s1 := s.step f o.unban
  have np : ∀ j es, ρ[j]? = some (Sl.acc es) → σ[j]? ≠ some (some (V.ref p)) := fun j es h1 h2 => by
    obtain ⟨a, us, h3, h4, _⟩ := s.rs.acc j es h1
    rw [h2] at h3
    cases h3
    rw [n] at h4
    cases h4
  have ac : ∀ a, accAt (σ.set i (some (V.ref p))) (ρ.set i (Sl.acc ds)) a → accAt σ ρ a ∨ a = p := fun a ⟨j, es, h1, h2⟩ => by
    by_cases q : i = j
    · subst q
      have z := (get_set_eq h2).1
      cases z
      exact .inr rfl
    · rw [get_set_ne q] at h1 h2
      exact .inl ⟨j, es, h1, h2⟩
  have sh : ∀ a, (w0.B a ∨ accAt (σ.set i (some (V.ref p))) (ρ.set i (Sl.acc ds)) a) → (w1.ban p).B a := fun a z => by
    rcases z with z | z
    · exact .inl ((s1.bb a).mpr (.inl z))
    · exact (ac a z).imp (fun z => (s1.bb a).mpr (.inr z)) id
  have m0 : Mv w (w1.ban p) := ⟨f.io, fun a u e q => by
    obtain ⟨h1, h2⟩ := f.mv.hp a u e q
    refine ⟨h1, fun z => ?_⟩
    rcases z with (z | z) | z
    · exact h2 (.inl z)
    · rw [z, n] at e
      cases e
    · exact h2 (.inr z), f.fz⟩
  have m1 : Mv (w1.ban p) (w1.bars w0 (σ.set i (some (V.ref p))) (ρ.set i (.acc ds))) := Mv.shrink (w := w1.ban p) sh
  refine ⟨m0.trans m1, o.shrink sh, ⟨?_, ?_, ?_⟩, s1.io, s1.hp, s1.fz, fun a => Iff.rfl, fun a z => ?_, ?_, s.b0⟩
  · rw [List.length_set, List.length_set]
    exact s.rs.len
  · intro j e h
    by_cases q : i = j
    · subst q
      have z := (get_set_eq h).1
      cases z
    · rw [get_set_ne q] at h
      obtain ⟨u, h1, h2⟩ := s.rs.val j e h
      exact ⟨u, by rw [get_set_ne q]; exact h1, h2.mono (m0.trans m1)⟩
  · intro j es h1
    by_cases q : i = j
    · subst q
      have z := (get_set_eq h1).1
      cases z
      have h8 : (σ.set i (some (V.ref p)))[i]? = some (some (V.ref p)) := by rw [List.getElem?_set, if_pos rfl, if_pos (by rw [s.rs.len]; exact hi)]
      exact ⟨p, vs, h8, h, r.mono m1, .inr ⟨i, _, h1, h8⟩⟩
    · have h1' := h1
      rw [get_set_ne q] at h1
      obtain ⟨a, us, h4, h5, h6, h7⟩ := s1.rs.acc j es h1
      have h8 : (σ.set i (some (V.ref p)))[j]? = some (some (V.ref a)) := by rw [get_set_ne q]; exact h4
      obtain ⟨a', us', g4, g5, g6, g7⟩ := s.rs.acc j es h1
      rw [h4] at g4
      cases g4
      obtain ⟨z1, z2⟩ := f.hp a _ g5 (s.ok.dis a g7)
      rw [h5] at z1
      cases z1
      exact ⟨a, us, h8, h5, g6.mono (m0.trans m1), .inr ⟨j, es, h1', h8⟩⟩
  · rcases ac a z with z | z
    · exact s.fr a z
    · rw [z]
      exact s.free0 n
  · intro j k es fs a h1 h2 h3 h4
    by_cases q1 : i = j <;> by_cases q2 : i = k
    · rw [← q1, ← q2]
    · subst q1
      rw [get_set_ne q2] at h2 h4
      have z := (get_set_eq h3).1
      cases z
      exact absurd h4 (np k fs h2)
    · subst q2
      rw [get_set_ne q1] at h1 h3
      have z := (get_set_eq h4).1
      cases z
      exact absurd h3 (np j es h1)
    · rw [get_set_ne q1] at h1 h3
      rw [get_set_ne q2] at h2 h4
      exact s.dj j k es fs a h1 h2 h3 h4
/-- such a list becomes a value -/
theorem SR.frz {w0 w : Wd} {σ : St} {ρ : Rho} (s : SR K G w0 w σ ρ) (i : Nat) : Mv w (w.bars w0 σ (frz i ρ)) ∧ SR K G w0 (w.bars w0 σ (frz i ρ)) σ (frz i ρ) := by
  unfold AH.frz
  split
  · rename_i ds e
    obtain ⟨p, us, p1, p2, p3, p4⟩ := s.rs.acc i ds e
    have hi : i < ρ.length := (List.getElem?_eq_some_iff.mp e).1
    have back : ∀ j es, (ρ.set i (Sl.val (.lst ds)))[j]? = some (Sl.acc es) → j ≠ i ∧ ρ[j]? = some (Sl.acc es) := fun j es h => by
      by_cases q : i = j
      · subst q
        have z := (get_set_eq h).1
        cases z
      · rw [get_set_ne q] at h
        exact ⟨fun z => q z.symm, h⟩
    have ac : ∀ a, accAt σ (ρ.set i (Sl.val (.lst ds))) a → accAt σ ρ a := fun a ⟨j, es, h1, h2⟩ => ⟨j, es, (back j es h1).2, h2⟩
    have sh : ∀ a, (w0.B a ∨ accAt σ (ρ.set i (Sl.val (.lst ds))) a) → w.B a := fun a z => (s.bb a).mpr (z.imp_right (ac a))
    have m : Mv w (w.bars w0 σ (ρ.set i (.val (.lst ds)))) := Mv.shrink sh
    have nx : ¬ (w.bars w0 σ (ρ.set i (.val (.lst ds)))).Ex p := fun z => by
      rcases z with (z | z) | z
      · obtain ⟨o, q⟩ := s.b0 p z
        rw [s.fr p ⟨i, ds, e, p1⟩] at q
        cases q
      · obtain ⟨j, es, h1, h2⟩ := z
        obtain ⟨n, h3⟩ := back j es h1
        exact n (s.dj j i es ds p h3 e h2 p1)
      · exact s.ok.dis p p4 z
    refine ⟨m, s.ok.shrink sh, ⟨?_, ?_, ?_⟩, s.io, s.hp, s.fz, fun a => Iff.rfl, fun a z => s.fr a (ac a z), ?_, s.b0⟩
    · rw [List.length_set]
      exact s.rs.len
    · intro j e' h
      by_cases q : i = j
      · subst q
        have z := (get_set_eq h).1
        cases z
        exact ⟨_, p1, .lst p2 nx (p3.mono m)⟩
      · rw [get_set_ne q] at h
        obtain ⟨u, h1, h2⟩ := s.rs.val j e' h
        exact ⟨u, h1, h2.mono m⟩
    · intro j es h
      obtain ⟨n, h3⟩ := back j es h
      obtain ⟨a, vs, h4, h5, h6, h7⟩ := s.rs.acc j es h3
      exact ⟨a, vs, h4, h5, h6.mono m, .inr ⟨j, es, h, h4⟩⟩
    · intro j k es fs a h1 h2 h3 h4
      exact s.dj j k es fs a (back j es h1).2 (back k fs h2).2 h3 h4
  · have sh : ∀ a, (w0.B a ∨ accAt σ ρ a) → w.B a := fun a z => (s.bb a).mpr z
    have m : Mv w (w.bars w0 σ ρ) := Mv.shrink sh
    exact ⟨m, s.ok.shrink sh, ⟨s.rs.len, fun i d h => let ⟨v, h1, h2⟩ := s.rs.val i d h; ⟨v, h1, h2.mono m⟩, fun i ds h => let ⟨a, vs, h1, h2, h3, h4⟩ := s.rs.acc i ds h; ⟨a, vs, h1, h2, h3.mono m, (s.bb a).mp h4⟩⟩, s.io, s.hp, s.fz, fun a => Iff.rfl, s.fr, s.dj, s.b0⟩
/-- what a barred address holds is another -/
theorem Ok.updB {w : Wd} {p : Addr} {u : HO} (o : Ok K G w) (hp : w.B p) (nf : ∀ q z, w.H p ≠ some (.frz q z)) : Mv w { w with H := upd w.H p u } ∧ Ok K G { w with H := upd w.H p u } := by
  have m : Mv w { w with H := upd w.H p u } := ⟨fun _ _ e => e, fun a z e k => ⟨by
    show upd w.H p u a = some z
    rw [upd_ne (fun q => k (.inl (by rw [q]; exact hp)))]
    exact e, k⟩, fun a q z e => by
    show upd w.H p u a = some (.frz q z)
    rw [upd_ne (fun y => nf q z (by rw [← y]; exact e))]
    exact e⟩
  refine ⟨m, fun l q e => ?_, o.inj, o.dom, o.nxt, o.dis, fun a b => ?_⟩
  · obtain ⟨a, h1, h2⟩ := o.obj l q e
    refine ⟨a, h1, h2.mono m ?_⟩
    show upd w.H p u a = w.H a
    exact upd_ne fun q => o.dis p hp ⟨l, by rw [← q]; exact h1⟩
  · by_cases q : a = p
    · exact ⟨u, by rw [q]; exact upd_same⟩
    · obtain ⟨z, hz⟩ := o.bh a b
      exact ⟨z, by
        show upd w.H p u a = some z
        rw [upd_ne q]
        exact hz⟩
theorem SR.upda {w0 w : Wd} {σ : St} {ρ : Rho} (s : SR K G w0 w σ ρ) {i : Nat} {p : Addr} {vs : List V} {ds es : List D} (e : ρ[i]? = some (.acc es)) (h : σ[i]? = some (some (V.ref p))) (hb : w.B p) (r : RVs K w vs ds) :
    Mv w { w with H := upd w.H p (.lst vs) } ∧ SR K G w0 { w with H := upd w.H p (.lst vs) } σ (ρ.set i (.acc ds)) := by
  obtain ⟨p', us', y1, y2, _, _⟩ := s.rs.acc i _ e
  have nf : ∀ q z, w.H p ≠ some (.frz q z) := fun q z y => by
    rw [h] at y1
    cases y1
    rw [y] at y2
    cases y2
  obtain ⟨m, o⟩ := s.ok.updB (u := .lst vs) hb nf
  have hi : i < ρ.length := (List.getElem?_eq_some_iff.mp e).1
  have back : ∀ j fs, (ρ.set i (Sl.acc ds))[j]? = some (Sl.acc fs) → ∃ gs, ρ[j]? = some (Sl.acc gs) := fun j fs h => by
    by_cases q : i = j
    · subst q
      exact ⟨es, e⟩
    · rw [get_set_ne q] at h
      exact ⟨fs, h⟩
  have fwd : ∀ j fs, ρ[j]? = some (Sl.acc fs) → ∃ gs, (ρ.set i (Sl.acc ds))[j]? = some (Sl.acc gs) := fun j fs h => by
    by_cases q : i = j
    · subst q
      exact ⟨ds, by rw [List.getElem?_set, if_pos rfl, if_pos hi]⟩
    · exact ⟨fs, by rw [get_set_ne q]; exact h⟩
  have ac : ∀ a, accAt σ (ρ.set i (Sl.acc ds)) a ↔ accAt σ ρ a := fun a => ⟨fun ⟨j, fs, h1, h2⟩ => let ⟨gs, h3⟩ := back j fs h1; ⟨j, gs, h3, h2⟩, fun ⟨j, fs, h1, h2⟩ => let ⟨gs, h3⟩ := fwd j fs h1; ⟨j, gs, h3, h2⟩⟩
  refine ⟨m, o, ⟨?_, ?_, ?_⟩, s.io, fun a u h1 h2 => ?_, fun a q u h1 => m.fz a q u (s.fz a q u h1), fun a => ?_, fun a z => s.fr a ((ac a).mp z), ?_, s.b0⟩
  · rw [List.length_set]
    exact s.rs.len
  · intro j e' h
    by_cases q : i = j
    · subst q
      have z := (get_set_eq h).1
      cases z
    · rw [get_set_ne q] at h
      obtain ⟨u, h1, h2⟩ := s.rs.val j e' h
      exact ⟨u, h1, h2.mono m⟩
  · intro j fs h1
    by_cases q : i = j
    · subst q
      have z := (get_set_eq h1).1
      cases z
      exact ⟨p, vs, h, upd_same, r.mono m, hb⟩
    · rw [get_set_ne q] at h1
      obtain ⟨a, us, h4, h5, h6, h7⟩ := s.rs.acc j fs h1
      have ne : a ≠ p := fun z => q (s.dj i j es fs p e h1 h (by rw [← z]; exact h4))
      exact ⟨a, us, h4, by
        show upd w.H p (.lst vs) a = _
        rw [upd_ne ne]
        exact h5, h6.mono m, h7⟩
  · obtain ⟨h3, h4⟩ := s.hp a u h1 h2
    refine ⟨?_, h4⟩
    show upd w.H p (.lst vs) a = some u
    rw [upd_ne (fun z => ?_)]
    · exact h3
    · rw [z, s.fr p ⟨i, es, e, h⟩] at h1
      cases h1
  · show w.B a ↔ _
    rw [ac a]
    exact s.bb a
  · intro j k fs gs a h1 h2 h3 h4
    obtain ⟨fs', q1⟩ := back j fs h1
    obtain ⟨gs', q2⟩ := back k gs h2
    exact s.dj j k fs' gs' a q1 q2 h3 h4
/-! ### targets -/
def SG (K : PySem.W.Frag) (G : Gx) (g : TG) (eg : EvG) : Prop := ∀ w0 w σ ρ x d ρ' S', SR K G w0 w σ ρ → RV K w x d → eg d ρ w.S = some (ρ', S') → ∀ Q, (∀ σ' w', w'.S = S' → Mv w w' → SR K G w0 w' σ' ρ' → Q σ' w'.H) → g x σ w.H Q
def SGs (K : PySem.W.Frag) (G : Gx) (g : TGs) (eg : EvGs) : Prop := ∀ w0 w σ ρ x d ρ' S', SR K G w0 w σ ρ → RVs K w x d → eg d ρ w.S = some (ρ', S') → ∀ Q, (∀ σ' w', w'.S = S' → Mv w w' → SR K G w0 w' σ' ρ' → Q σ' w'.H) → g x σ w.H Q
theorem sg_name {i : Nat} : SG K G (gName i) (gNm i) := fun w0 w σ ρ x d ρ' S' s r h Q k => by
  unfold gNm at h
  split at h
  · rename_i hi
    cases h
    obtain ⟨m, s'⟩ := s.setv r hi
    exact k _ (w.bars w0 (σ.set i (some x)) (ρ.set i (.val d))) rfl m s'
  · cases h
theorem sgs_nil : SGs K G gNil gsNil := fun w0 w σ ρ x d ρ' S' s r h Q k => by
  unfold gsNil at h
  split at h
  · cases h
    cases r
    exact ⟨rfl, k σ w rfl (Mv.refl w) s⟩
  · cases h
theorem sgs_cons {g : TG} {gs : TGs} {eg : EvG} {egs : EvGs} (h1 : SG K G g eg) (h2 : SGs K G gs egs) : SGs K G (gCons g gs) (gsCons eg egs) := fun w0 w σ ρ x d ρ' S' s r h Q k => by
  unfold gsCons at h
  split at h
  · obtain ⟨⟨ρ1, S1⟩, q1, q2⟩ := bnd h
    cases r with
    | cons r1 r2 =>
      refine ⟨_, _, rfl, h1 w0 w σ ρ _ _ ρ1 S1 s r1 q1 _ fun σ1 w1 e1 m1 s1 => ?_⟩
      subst e1
      exact h2 w0 w1 σ1 ρ1 _ _ ρ' S' s1 (r2.mono m1) q2 Q fun σ2 w2 e2 m2 s2 => k σ2 w2 e2 (m1.trans m2) s2
  · cases h
theorem sg_tup {n : Nat} {gs : TGs} {egs : EvGs} (h1 : SGs K G gs egs) : SG K G (gTup K n gs) (gTp n egs) := fun w0 w σ ρ x d ρ' S' s r h Q k => by
  unfold gTp at h
  split at h
  · split at h
    · rename_i hl
      cases r with
      | tup q1 q2 q3 => exact ⟨_, _, rfl, SqT.of q1, by rw [q3.length]; exact hl, h1 w0 w σ ρ _ _ ρ' S' s q3 h Q k⟩
    · cases h
  · cases h
theorem ss_asg {g : TG} {eg : EvG} (he : SE K G te ea) (hg : SG K G g eg) : SS K G (tAsg te g) (sAsg ea eg) := fun w0 w σ ρ f ρ' S' s h D p => by
  obtain ⟨⟨c, S1⟩, h1, h2⟩ := bnd h
  obtain ⟨⟨ρ1, S2⟩, h3, h4⟩ := bnd h2
  cases h4
  refine he w σ ρ c _ s.ok s.rs h1 _ fun v w1 e1 f1 o1 r1 => ?_
  subst e1
  exact hg w0 w1 σ ρ v c _ _ (s.step f1 o1) r1 h3 _ fun σ2 w2 e2 m2 s2 => p σ2 w2 e2 (f1.mv.trans m2) s2
theorem ss_acc {i : Nat} (he : SF K G te el) : SS K G (tAsg te (gName i)) (sAcc i el) := fun w0 w σ ρ f ρ' S' s h D p => by
  obtain ⟨⟨c, S1⟩, h1, h2⟩ := bnd h
  split at h2
  · rename_i hi
    cases h2
    refine he w σ ρ c _ s.ok s.rs h1 _ fun q vs w1 e1 f1 n1 o1 hq r1 => ?_
    obtain ⟨m, s'⟩ := s.seta f1 n1 o1 hq r1 hi
    exact p _ (w1.bars w0 (σ.set i (some (V.ref q))) (ρ.set i (.acc c))) e1 m s'
  · cases h2
theorem ss_frz {i : Nat} (h : SS K G t a) : SS K G t (sFrz i a) := fun w0 w σ ρ f ρ' S' s hh D p => by
  obtain ⟨m, s'⟩ := s.frz i
  exact h w0 (w.bars w0 σ (frz i ρ)) σ (frz i ρ) f ρ' S' s' hh D (p.from m)
theorem ty_list {w : Wd} {a : Addr} {vs : List V} (h : w.H a = some (.lst vs)) : tyV K "list" (.ref a) w.H := Or.inl ⟨rfl, _, Or.inl (Or.inl h)⟩
theorem ss_app {i : Nat} (he : SE K G te ea) : SS K G (tDrop (tBM K "list" rAppend (tVar i) (tCons te tNil))) (sApp i ea) := fun w0 w σ ρ f ρ' S' s h D p => by
  obtain ⟨⟨c, S1⟩, h1, h2⟩ := bnd h
  dsimp only at h2
  split at h2
  · rename_i es0 e0
    split at h2
    · rename_i hl
      cases h2
      obtain ⟨a, vs, q1, q2, q3, q4⟩ := s.rs.acc i _ e0
      refine ⟨_, q1, ty_list q2, he w σ ρ c _ s.ok s.rs h1 _ fun v w1 e1 f1 o1 r1 => ?_⟩
      have s1 := s.step f1 o1
      obtain ⟨q5, _⟩ := f1.hp a _ q2 (s.ok.dis a q4)
      refine ⟨a, vs, v, rfl, rfl, q5, by rw [q3.length]; exact hl, ?_⟩
      have b1 : w1.B a := by rw [f1.bb]; exact q4
      obtain ⟨m, s'⟩ := s1.upda (ds := es0 ++ [c]) e0 q1 b1 ((q3.mono f1.mv).append (.one r1))
      exact p σ { w1 with H := upd w1.H a (.lst (vs ++ [v])) } e1 (f1.mv.trans m) s'
    · cases h2
  · cases h2
theorem ss_extend {i : Nat} (he : SF K G te el) : SS K G (tDrop (tBM K "list" rExtend (tVar i) (tCons te tNil))) (sExtend i el) := fun w0 w σ ρ f ρ' S' s h D p => by
  obtain ⟨⟨c, S1⟩, h1, h2⟩ := bnd h
  dsimp only at h2
  split at h2
  · rename_i es0 e0
    split at h2
    · rename_i hl
      cases h2
      obtain ⟨a, vs, q1, q2, q3, q4⟩ := s.rs.acc i _ e0
      refine ⟨_, q1, ty_list q2, he w σ ρ c _ s.ok s.rs h1 _ fun q us w1 e1 f1 n1 o1 hq r1 => ?_⟩
      have s1 := s.step f1 o1.unban
      obtain ⟨q5, _⟩ := f1.hp a _ q2 (s.ok.dis a q4)
      refine ⟨a, q, vs, us, rfl, rfl, q5, hq, by rw [q3.length, r1.length]; exact hl, ?_⟩
      have b1 : w1.B a := by rw [f1.bb]; exact q4
      obtain ⟨m, s'⟩ := s1.upda (ds := es0 ++ c) e0 q1 b1 ((q3.mono f1.mv).append r1.unban)
      exact p σ { w1 with H := upd w1.H a (.lst (vs ++ us)) } e1 (f1.mv.trans m) s'
    · cases h2
  · cases h2
theorem ss_par {i j : Nat} {ta tb : TE} {ea eb : Ev} (hij : i ≠ j) (ha : SE K G ta ea) (hb : SE K G tb eb) : SS K G (tPar i j (tCons ta (tCons tb tNil))) (sPar i j ea eb) := fun w0 w σ ρ f ρ' S' s h D p => by
  obtain ⟨⟨c, S1⟩, h1, h2⟩ := bnd h
  obtain ⟨⟨d, S2⟩, h3, h4⟩ := bnd h2
  split at h4
  · rename_i hl
    cases h4
    refine ha w σ ρ c _ s.ok s.rs h1 _ fun v w1 e1 f1 o1 r1 => ?_
    subst e1
    have s1 := s.step f1 o1
    refine hb w1 σ ρ d _ s1.ok s1.rs h3 _ fun u w2 e2 f2 o2 r2 => ?_
    have s2 := s1.step f2 o2
    refine ⟨v, u, rfl, ?_⟩
    obtain ⟨m3, s3⟩ := s2.setv (i := i) (r1.mono f2.mv) hl.1
    obtain ⟨m4, s4⟩ := s3.setv (i := j) (r2.mono m3) (by rw [List.length_set]; exact hl.2)
    exact p _ ((w2.bars w0 (σ.set i (some v)) (ρ.set i (.val c))).bars w0 ((σ.set i (some v)).set j (some u)) ((ρ.set i (.val c)).set j (.val d))) e2 (((f1.mv.trans f2.mv).trans m3).trans m4) s4
  · cases h4
end
end AH

set_option maxRecDepth 100000
set_option maxHeartbeats 2000000
namespace AH
open PySem L2 TL

/-! ### what is walked -/
def JOK (K : PySem.W.Frag) (G : Gx) (J : It) (w1 : Wd) (ds : List D) : Prop := ∀ (i : Nat) (w : Wd), Mv w1 w → Ok K G w →
  (∀ d, ds[i]? = some d → J.go i w.H ∧ ∀ x H', J.yld i w.H x H' → ∃ w2, w2.H = H' ∧ w2.S = w.S ∧ Fr w w2 ∧ Ok K G w2 ∧ RV K w2 x d) ∧ (i = ds.length → J.stop i w.H)
def SI (K : PySem.W.Frag) (G : Gx) (wi : TI) (ev : EvL) : Prop := ∀ w σ ρ ds S', Ok K G w → RS K w σ ρ → ev ρ w.S = some (ds, S') → ∀ R : It → Hp → Prop, (∀ J w', w'.S = S' → Fr w w' → Ok K G w' → JOK K G J w' ds → R J w'.H) → wi σ w.H R
theorem JOK.mono {K : PySem.W.Frag} {G : Gx} {J : It} {w1 w2 : Wd} {ds : List D} (j : JOK K G J w1 ds) (m : Mv w1 w2) : JOK K G J w2 ds := fun i w m2 o => j i w (m.trans m2) o

def iL (a : Ev) : EvL := fun ρ S => (a ρ S).bind fun x => match x.1 with
  | .lst ds => some (ds, x.2)
  | .tup _ => none
  | .scr ns => some (ns.map D.int, x.2)
  | _ => none
def iT (a : Ev) : EvL := fun ρ S => (a ρ S).bind fun x => match x.1 with
  | .tup ds => some (ds, x.2)
  | _ => none
def chars (z : List Nat) : List D := z.map fun c => D.str [c]
def iS (a : Ev) : EvL := fun ρ S => (a ρ S).bind fun x => match x.1 with
  | .str z => some (chars z, x.2)
  | _ => none
def rng (lo : Int) (n : Nat) : List D := (List.range n).map fun k => D.int (lo + (k : Nat))
def iR1 (a : EvL) : EvL := fun ρ S => (a ρ S).bind fun x => match x.1 with
  | [.int j] => if -1000000000 ≤ j ∧ j ≤ 1000000000 then some (rng 0 j.toNat, x.2) else none
  | _ => none
def iR2 (a : EvL) : EvL := fun ρ S => (a ρ S).bind fun x => match x.1 with
  | [.int i, .int j] => if -1000000000 ≤ i ∧ i ≤ 1000000000 ∧ -1000000000 ≤ j ∧ j ≤ 1000000000 then some (rng i (j - i).toNat, x.2) else none
  | _ => none
/-- range(i, j, c), c above 0 -/
def rng3 (lo c : Int) (n : Nat) : List D := (List.range n).map fun k => D.int (lo + (k : Nat) * c)
def rn3 (i j c : Int) : Nat := if i < j then ((j - i - 1) / c + 1).toNat else 0
def iR3 (a : EvL) : EvL := fun ρ S => (a ρ S).bind fun x => match x.1 with
  | [.int i, .int j, .int c] => if 0 ≤ i ∧ i ≤ 1000000000 ∧ 0 ≤ j ∧ j ≤ 1000000000 ∧ 0 < c ∧ c ≤ 1000000 then some (rng3 i c (rn3 i j c), x.2) else none
  | _ => none
def enumD (ds : List D) : List D := (List.range ds.length).map fun k => D.tup [.int (k : Nat), ds.getD k .non]
def iE (a : EvL) : EvL := fun ρ S => (a ρ S).bind fun x => match x.1 with
  | [.lst ds] => some (enumD ds, x.2)
  | _ => none

section
variable {K : PySem.W.Frag} {G : Gx}
theorem jok_list {w1 : Wd} {a : Addr} {vs : List V} {ds : List D} (h : w1.H a = some (.lst vs)) (n : ¬ w1.Ex a) (r : RVs K w1 vs ds) : JOK K G (Itl K a) w1 ds := fun i w m o => by
  obtain ⟨q, _⟩ := m.hp a _ h n
  refine ⟨fun d hd => ?_, fun e => ⟨vs, SqL.of q, by rw [r.length, e]; exact Nat.le_refl _⟩⟩
  obtain ⟨v, h1, h2⟩ := r.get hd
  refine ⟨⟨vs, v, SqL.of q, h1⟩, fun x H' y => ?_⟩
  obtain ⟨y1, y2⟩ := y
  subst y1
  have := y2 vs (SqL.of q)
  rw [h1] at this
  cases this
  exact ⟨w, rfl, rfl, Fr.refl w, o, h2.mono m⟩
theorem si_list {te : TE} {ea : Ev} (h : SE K G te ea) : SI K G (iList K te) (iL ea) := fun w σ ρ ds S' o rs hh R k => by
  obtain ⟨⟨d, S1⟩, h1, h2⟩ := bnd hh
  refine h w σ ρ d S1 o rs h1 _ fun v w1 e1 f1 o1 r1 => ?_
  subst e1
  cases d with
  | lst es =>
    cases h2
    cases r1 with
    | lst q1 q2 q3 => exact ⟨_, rfl, ⟨_, SqL.of q1⟩, k _ w1 rfl f1 o1 (jok_list q1 q2 q3)⟩
  | scr ns =>
    cases h2
    obtain ⟨a, rfl, q⟩ := scr_sql r1
    refine ⟨a, rfl, ⟨_, q⟩, k _ w1 rfl f1 o1 fun i w' m o' => ?_⟩
    obtain ⟨a', e, q'⟩ := scr_sql (r1.mono m)
    cases e
    refine ⟨fun d hd => ?_, fun e => ⟨_, q', by rw [List.length_map, e, List.length_map]; exact Nat.le_refl _⟩⟩
    have hn : ∃ n, ns[i]? = some n ∧ d = .int n := by
      rw [List.getElem?_map] at hd
      cases z : ns[i]? with
      | none => rw [z] at hd; cases hd
      | some n => rw [z] at hd; cases hd; exact ⟨n, rfl, rfl⟩
    obtain ⟨n, hn, rfl⟩ := hn
    have hv : (ns.map V.int)[i]? = some (V.int n) := by rw [List.getElem?_map, hn]; rfl
    refine ⟨⟨_, _, q', hv⟩, fun x H' y => ?_⟩
    obtain ⟨y1, y2⟩ := y
    subst y1
    have := y2 _ q'
    rw [hv] at this
    cases this
    exact ⟨w', rfl, rfl, Fr.refl w', o', .int⟩
  | _ => cases h2
theorem si_listF {te : TE} {el : EvL} (h : SF K G te el) : SI K G (iList K te) el := fun w σ ρ ds S' o rs hh R k =>
  h w σ ρ ds S' o rs hh _ fun p vs w1 e1 f1 n1 o1 hp r1 => ⟨p, rfl, ⟨_, SqL.of hp⟩, k _ w1 e1 f1 o1.unban (jok_list hp (fun z => by
    rcases z with z | z
    · rw [f1.bb] at z
      obtain ⟨q, hq⟩ := o.bh p z
      rw [n1] at hq
      cases hq
    · exact o1.dis p (.inr rfl) z) r1.unban)⟩
theorem si_tup {te : TE} {ea : Ev} (h : SE K G te ea) : SI K G (iTup K te) (iT ea) := fun w σ ρ ds S' o rs hh R k => by
  obtain ⟨⟨d, S1⟩, h1, h2⟩ := bnd hh
  refine h w σ ρ d S1 o rs h1 _ fun v w1 e1 f1 o1 r1 => ?_
  subst e1
  cases d with
  | tup es =>
    cases h2
    cases r1 with
    | tup q1 q2 q3 =>
      rename_i a vs
      refine ⟨_, rfl, ⟨_, SqT.of q1⟩, k _ w1 rfl f1 o1 fun i w' m o' => ?_⟩
      obtain ⟨q, _⟩ := m.hp a _ q1 q2
      refine ⟨fun d hd => ?_, fun e => ⟨vs, SqT.of q, by rw [q3.length, e]; exact Nat.le_refl _⟩⟩
      obtain ⟨v, g1, g2⟩ := q3.get hd
      refine ⟨⟨vs, v, SqT.of q, g1⟩, fun x H' y => ?_⟩
      obtain ⟨y1, y2⟩ := y
      subst y1
      have := y2 vs (SqT.of q)
      rw [g1] at this
      cases this
      exact ⟨w', rfl, rfl, Fr.refl w', o', g2.mono m⟩
  | _ => cases h2
theorem si_str {te : TE} {ea : Ev} (h : SE K G te ea) : SI K G (iStr te) (iS ea) := fun w σ ρ ds S' o rs hh R k => by
  obtain ⟨⟨d, S1⟩, h1, h2⟩ := bnd hh
  refine h w σ ρ d S1 o rs h1 _ fun v w1 e1 f1 o1 r1 => ?_
  subst e1
  cases d with
  | str z =>
    cases h2
    cases r1
    refine ⟨_, rfl, k _ w1 rfl f1 o1 fun i w' m o' => ?_⟩
    have sz : (⟨z.toArray⟩ : Str).cps.size = z.length := by simp
    refine ⟨fun d hd => ?_, fun e => ?_⟩
    · unfold chars at hd
      rw [List.getElem?_map] at hd
      cases q : z[i]? with
      | none => rw [q] at hd; cases hd
      | some c =>
        rw [q] at hd
        cases hd
        have hi : i < z.length := (List.getElem?_eq_some_iff.mp q).1
        refine ⟨by show i < (⟨z.toArray⟩ : Str).cps.size; rw [sz]; exact hi, fun x H' y => ?_⟩
        obtain ⟨y1, c', y2, y3⟩ := y
        subst y1 y3
        have : z[i]? = some c' := by simpa using y2
        rw [q] at this
        cases this
        exact ⟨w', rfl, rfl, Fr.refl w', o', .str⟩
    · show (⟨z.toArray⟩ : Str).cps.size ≤ i
      rw [sz, e]
      simp [chars]
  | _ => cases h2
theorem jok_rng {w1 : Wd} (lo : Int) (n : Nat) : JOK K G (Itr lo n) w1 (rng lo n) := fun i w m o => by
  unfold rng
  refine ⟨fun d hd => ?_, fun e => by
    show n ≤ i
    rw [e]
    simp⟩
  rw [List.getElem?_map] at hd
  cases q : (List.range n)[i]? with
  | none => rw [q] at hd; cases hd
  | some c =>
    rw [q] at hd
    cases hd
    obtain ⟨hi, he⟩ := List.getElem?_eq_some_iff.mp q
    rw [List.length_range] at hi
    rw [List.getElem_range] at he
    subst he
    refine ⟨hi, fun x H' y => ?_⟩
    obtain ⟨y1, y2⟩ := y
    subst y1 y2
    exact ⟨w, rfl, rfl, Fr.refl w, o, .int⟩
theorem si_r1 {ta : TA} {el : EvL} (h : SA K G ta el) : SI K G (iRng1 ta) (iR1 el) := fun w σ ρ ds S' o rs hh R k => by
  obtain ⟨⟨d, S1⟩, h1, h2⟩ := bnd hh
  refine h w σ ρ d S1 o rs h1 _ fun v w1 e1 f1 o1 r1 => ?_
  subst e1
  dsimp only at h2
  split at h2
  · split at h2
    · rename_i j hj
      cases h2
      obtain ⟨v, rfl, r2⟩ := r1.one_of
      cases r2
      exact ⟨j, rfl, by omega, by omega, k _ w1 rfl f1 o1 (jok_rng 0 _)⟩
    · cases h2
  · cases h2
theorem si_r2 {ta : TA} {el : EvL} (h : SA K G ta el) : SI K G (iRng2 ta) (iR2 el) := fun w σ ρ ds S' o rs hh R k => by
  obtain ⟨⟨d, S1⟩, h1, h2⟩ := bnd hh
  refine h w σ ρ d S1 o rs h1 _ fun v w1 e1 f1 o1 r1 => ?_
  subst e1
  dsimp only at h2
  split at h2
  · split at h2
    · rename_i i j hj
      cases h2
      obtain ⟨v, u, rfl, r2, r3⟩ := r1.two_of
      cases r2
      cases r3
      exact ⟨i, j, rfl, ⟨by omega, by omega, by omega, by omega⟩, k _ w1 rfl f1 o1 (jok_rng i _)⟩
    · cases h2
  · cases h2
theorem rg_ok {i j c : Int} (h : 0 ≤ i ∧ i ≤ 1000000000 ∧ 0 ≤ j ∧ j ≤ 1000000000 ∧ 0 < c ∧ c ≤ 1000000) : RgC i j c (rn3 i j c) := by
  refine ⟨by omega, by omega, ?_, ?_⟩
  · have e : Builtin.Range.rangeSize i j c = if i < j then (j - i - 1) / c + 1 else 0 := by
      unfold Builtin.Range.rangeSize
      rw [if_pos h.2.2.2.2.1]
    have e0 : (0 : Int) ≤ (j - i - 1) / c ∨ ¬ i < j := by
      by_cases q : i < j
      · exact .inl (Int.ediv_nonneg (by omega) (by omega))
      · exact .inr q
    have e1 : (j - i - 1) / c ≤ 1000000000 ∨ ¬ i < j := by
      by_cases q : i < j
      · exact .inl (Int.le_trans (Int.ediv_le_self _ (by omega)) (by omega))
      · exact .inr q
    unfold Builtin.Range.small
    rw [e, if_pos h.2.2.2.2.1]
    simp only [Builtin.Range.rangeFitsLong, Bool.and_eq_true, Bool.or_eq_true, decide_eq_true_eq, beq_iff_eq]
    generalize (j - i - 1) / c = q at e0 e1 ⊢
    by_cases z : i < j
    · rw [if_pos z]
      omega
    · rw [if_neg z]
      omega
  · unfold Builtin.Range.rangeSize rn3
    rw [if_pos h.2.2.2.2.1]
    by_cases q : i < j
    · rw [if_pos q, if_pos q]
      have : 0 ≤ (j - i - 1) / c := Int.ediv_nonneg (by omega) (by omega)
      omega
    · rw [if_neg q, if_neg q]
      rfl
theorem si_r3 {ta : TA} {el : EvL} (h : SA K G ta el) : SI K G (iRng3 ta) (iR3 el) := fun w σ ρ ds S' o rs hh R k => by
  obtain ⟨⟨d, S1⟩, h1, h2⟩ := bnd hh
  refine h w σ ρ d S1 o rs h1 _ fun v w1 e1 f1 o1 r1 => ?_
  subst e1
  dsimp only at h2
  split at h2
  · split at h2
    · rename_i i j c hj
      cases h2
      cases r1 with
      | cons r2 r1 =>
        obtain ⟨v, u, rfl, r3, r4⟩ := r1.two_of
        cases r2
        cases r3
        cases r4
        refine ⟨i, j, c, _, rfl, rg_ok hj, k _ w1 rfl f1 o1 fun n w m o => ?_⟩
        unfold rng3
        refine ⟨fun d hd => ?_, fun e => by
          show _ ≤ n
          rw [e]
          simp⟩
        rw [List.getElem?_map] at hd
        cases q : (List.range (rn3 i j c))[n]? with
        | none => rw [q] at hd; cases hd
        | some c' =>
          rw [q] at hd
          cases hd
          obtain ⟨hi, he⟩ := List.getElem?_eq_some_iff.mp q
          rw [List.length_range] at hi
          rw [List.getElem_range] at he
          subst he
          refine ⟨hi, fun x H' y => ?_⟩
          obtain ⟨y1, y2⟩ := y
          subst y1 y2
          exact ⟨w, rfl, rfl, Fr.refl w, o, .int⟩
    · cases h2
  · cases h2
theorem si_enum {ta : TA} {el : EvL} (h : SA K G ta el) : SI K G (iEnum K ta) (iE el) := fun w σ ρ ds S' o rs hh R k => by
  obtain ⟨⟨d, S1⟩, h1, h2⟩ := bnd hh
  refine h w σ ρ d S1 o rs h1 _ fun v w1 e1 f1 o1 r1 => ?_
  subst e1
  dsimp only at h2
  split at h2
  · rename_i ds
    cases h2
    obtain ⟨v, rfl, r2⟩ := r1.one_of
    cases r2 with
    | lst q1 q2 q3 =>
      rename_i a vs
      refine ⟨a, vs, rfl, SqL.of q1, k _ w1 rfl f1 o1 fun i w' m o' => ?_⟩
      obtain ⟨q, _⟩ := m.hp a _ q1 q2
      unfold enumD
      refine ⟨fun d hd => ?_, fun e => ⟨vs, SqL.of q, by rw [q3.length, e]; simp⟩⟩
      rw [List.getElem?_map] at hd
      cases z : (List.range ds.length)[i]? with
      | none => rw [z] at hd; cases hd
      | some c =>
        rw [z] at hd
        cases hd
        obtain ⟨hi, he⟩ := List.getElem?_eq_some_iff.mp z
        rw [List.length_range] at hi
        rw [List.getElem_range] at he
        subst he
        have hg : ds[i]? = some (ds.getD i .non) := by
          rw [List.getD_eq_getElem?_getD, List.getElem?_eq_getElem hi]
          rfl
        obtain ⟨v, g1, g2⟩ := q3.get hg
        refine ⟨⟨vs, v, SqL.of q, g1⟩, fun x H' y => ?_⟩
        obtain ⟨T, u, y1, y2, y3, y4⟩ := y
        have := y4 vs (SqL.of q)
        rw [g1] at this
        cases this
        subst y1 y3
        exact ⟨w'.add T (.tup [.int (i : Nat), v]), rfl, rfl, Fr.add y2, o'.add y2, .tup upd_same (fun z => o'.fresh y2 z) (.cons .int (.one ((g2.mono m).mono (Fr.add y2).mv)))⟩
  · cases h2

/-! ### loops -/
def forL (g : EvG) (b : EvS) : List D → EvS
  | [], ρ, S => some (.nx, ρ, S)
  | d :: ds, ρ, S => match g d ρ S with
    | none => none
    | some (ρ1, S1) => match b ρ1 S1 with
      | some (.nx, ρ2, S2) => forL g b ds ρ2 S2
      | some (.ct, ρ2, S2) => forL g b ds ρ2 S2
      | some (.bk, ρ2, S2) => some (.nx, ρ2, S2)
      | r => r
def sFor (it : EvL) (g : EvG) (b : EvS) : EvS := fun ρ S => (it ρ S).bind fun x => forL g b x.1 ρ x.2
theorem forL_ok {g : TG} {eg : EvG} {tb : TS} {eb : EvS} (hg : SG K G g eg) (hb : SS K G tb eb) {w0 w1 : Wd} {J : It} {ds : List D} (jk : JOK K G J w1 ds) {σ : St} {ρ : Rho} {f : Fl} {ρ' : Rho} {S' : Sto} (s : SR K G w0 w1 σ ρ)
    (h : forL eg eb ds ρ w1.S = some (f, ρ', S')) {D : Ends} (p : Post K G w0 w1 D f ρ' S') :
    ∃ W : Nat → Nat → St → Hp → Prop, (∃ m, W 0 m σ w1.H) ∧ ∀ i m σ H, W i m σ H →
      (J.stop i H ∧ D.nx σ H) ∨ (J.go i H ∧ ∃ N : St → Hp → Prop, (∀ σ' H', N σ' H' → ∃ m', m' < m ∧ W (i + 1) m' σ' H') ∧ ∀ x H', J.yld i H x H' → g x σ H' fun σ2 H2 => tb { D with nx := N, ct := N, bk := D.nx } σ2 H2) := by
  refine ⟨fun i m σ H => m = ds.length - i ∧ i ≤ ds.length ∧ ∃ w ρ, w.H = H ∧ Mv w1 w ∧ SR K G w0 w σ ρ ∧ forL eg eb (ds.drop i) ρ w.S = some (f, ρ', S'), ⟨ds.length, by simp, Nat.zero_le _, w1, ρ, rfl, Mv.refl _, s, by simpa using h⟩, ?_⟩
  rintro i m σ H ⟨rfl, hi, w, ρ, rfl, mv, s, hh⟩
  obtain ⟨j1, j2⟩ := jk i w mv s.ok
  by_cases hlt : i < ds.length
  · right
    have hd : ds[i]? = some ds[i] := List.getElem?_eq_getElem hlt
    obtain ⟨go, yl⟩ := j1 _ hd
    rw [List.drop_eq_getElem_cons hlt, forL] at hh
    refine ⟨go, fun σ' H' => ∃ w' ρ2, w'.H = H' ∧ Mv w1 w' ∧ SR K G w0 w' σ' ρ2 ∧ forL eg eb (ds.drop (i + 1)) ρ2 w'.S = some (f, ρ', S'), fun σ' H' ⟨w', ρ2, e, m2, s2, h2⟩ => ⟨_, by omega, rfl, hlt, w', ρ2, e, m2, s2, h2⟩, fun x H' y => ?_⟩
    obtain ⟨w2, e2, eS, f2, o2, r2⟩ := yl x H' y
    subst e2
    cases q1 : eg ds[i] ρ w.S with
    | none => rw [q1] at hh; cases hh
    | some z =>
      obtain ⟨ρ1, S1⟩ := z
      rw [q1] at hh
      dsimp only at hh
      refine hg w0 w2 σ ρ x _ ρ1 S1 (s.step f2 o2) r2 (by rw [eS]; exact q1) _ fun σ3 w3 e3 m3 s3 => ?_
      subst e3
      have m13 : Mv w1 w3 := (mv.trans f2.mv).trans m3
      cases q2 : eb ρ1 w3.S with
      | none => rw [q2] at hh; cases hh
      | some z =>
        obtain ⟨fl, ρ2, S2⟩ := z
        rw [q2] at hh
        refine hb w0 w3 σ3 ρ1 fl ρ2 S2 s3 q2 _ ?_
        cases fl with
        | nx => exact fun σ4 w4 e4 m4 s4 => ⟨w4, ρ2, rfl, m13.trans m4, s4, by rw [e4]; exact hh⟩
        | ct => exact fun σ4 w4 e4 m4 s4 => ⟨w4, ρ2, rfl, m13.trans m4, s4, by rw [e4]; exact hh⟩
        | bk =>
          cases hh
          exact fun σ4 w4 e4 m4 s4 => p σ4 w4 e4 (m13.trans m4) s4
        | rt d => cases hh; exact p
        | rf d => cases hh; exact p
  · left
    have e : i = ds.length := by omega
    refine ⟨j2 e, ?_⟩
    rw [e, List.drop_length, forL] at hh
    cases hh
    exact p σ w rfl mv s
theorem ss_for {wi : TI} {ei : EvL} {g : TG} {eg : EvG} {tb : TS} {eb : EvS} (hi : SI K G wi ei) (hg : SG K G g eg) (hb : SS K G tb eb) : SS K G (tFor wi g tb) (sFor ei eg eb) := fun w0 w σ ρ f ρ' S' s h D p => by
  obtain ⟨⟨ds, S1⟩, h1, h2⟩ := bnd h
  refine hi w σ ρ ds S1 s.ok s.rs h1 _ fun J w1 e1 f1 o1 jk => ?_
  subst e1
  exact forL_ok hg hb jk (s.step f1 o1) h2 (p.from f1.mv)
def whileN (t : EvT) (b : EvS) : Nat → EvS
  | 0, _, _ => none
  | n + 1, ρ, S => match t ρ S with
    | none => none
    | some (false, S1) => some (.nx, ρ, S1)
    | some (true, S1) => match b ρ S1 with
      | some (.nx, ρ2, S2) => whileN t b n ρ2 S2
      | some (.ct, ρ2, S2) => whileN t b n ρ2 S2
      | some (.bk, ρ2, S2) => some (.nx, ρ2, S2)
      | r => r
def sWhile (n : Nat) (t : EvT) (b : EvS) : EvS := fun ρ S => whileN t b n ρ S
theorem ss_while {n : Nat} {tc : TT} {et : EvT} {tb : TS} {eb : EvS} (ht : STt K G tc et) (hb : SS K G tb eb) : SS K G (tWhile tc tb) (sWhile n et eb) := fun w0 w1 σ ρ f ρ' S' s h D p => by
  refine ⟨fun m σ H => ∃ w ρ, w.H = H ∧ Mv w1 w ∧ SR K G w0 w σ ρ ∧ whileN et eb m ρ w.S = some (f, ρ', S'), ⟨n, w1, ρ, rfl, Mv.refl _, s, h⟩, ?_⟩
  rintro m σ H ⟨w, ρ, rfl, mv, s, hh⟩
  cases m with
  | zero => cases hh
  | succ m =>
    rw [whileN] at hh
    cases q1 : et ρ w.S with
    | none => rw [q1] at hh; cases hh
    | some z =>
      obtain ⟨b, S1⟩ := z
      rw [q1] at hh
      refine ht w σ ρ b S1 s.ok s.rs q1 _ fun w2 e2 f2 o2 => ?_
      subst e2
      have s2 := s.step f2 o2
      have m2 : Mv w1 w2 := mv.trans f2.mv
      cases b with
      | false =>
        cases hh
        exact p σ w2 rfl m2 s2
      | true =>
        dsimp only at hh
        refine ⟨fun σ' H' => ∃ w' ρ2, w'.H = H' ∧ Mv w1 w' ∧ SR K G w0 w' σ' ρ2 ∧ whileN et eb m ρ2 w'.S = some (f, ρ', S'), fun σ' H' ⟨w', ρ2, e, q2, q3, q4⟩ => ⟨m, Nat.lt_succ_self _, w', ρ2, e, q2, q3, q4⟩, ?_⟩
        cases q2 : eb ρ w2.S with
        | none => rw [q2] at hh; cases hh
        | some z =>
          obtain ⟨fl, ρ2, S2⟩ := z
          rw [q2] at hh
          refine hb w0 w2 σ ρ fl ρ2 S2 s2 q2 _ ?_
          cases fl with
          | nx => exact fun σ4 w4 e4 m4 s4 => ⟨w4, ρ2, rfl, m2.trans m4, s4, by rw [e4]; exact hh⟩
          | ct => exact fun σ4 w4 e4 m4 s4 => ⟨w4, ρ2, rfl, m2.trans m4, s4, by rw [e4]; exact hh⟩
          | bk =>
            cases hh
            exact fun σ4 w4 e4 m4 s4 => p σ4 w4 e4 (m2.trans m4) s4
          | rt d => cases hh; exact p
          | rf d => cases hh; exact p

/-! ### comprehensions -/
def wipeR (ρ : Rho) : List Nat → Rho
  | [] => ρ
  | v :: vs => (wipeR ρ vs).set v .no
theorem wipe_at (σ : St) : ∀ (vs : List Nat) (k : Nat), (wipe σ vs)[k]? = if k ∈ vs then σ[k]?.map fun _ => none else σ[k]?
  | [], k => by simp [wipe]
  | v :: vs, k => by
    rw [wipe, List.getElem?_set]
    by_cases h : v = k
    · subst h
      rw [if_pos rfl, if_pos (List.mem_cons_self ..), wipe_length]
      by_cases hl : v < σ.length
      · rw [if_pos hl, List.getElem?_eq_getElem hl]
        rfl
      · rw [if_neg hl, List.getElem?_eq_none (Nat.le_of_not_lt hl)]
        rfl
    · rw [if_neg h, wipe_at σ vs k]
      have : (k ∈ v :: vs) ↔ (k ∈ vs) := by
        simp only [List.mem_cons]
        exact ⟨fun z => z.elim (fun q => absurd q.symm h) id, .inr⟩
      by_cases q : k ∈ vs
      · rw [if_pos q, if_pos (this.mpr q)]
      · rw [if_neg q, if_neg (fun z => q (this.mp z))]
theorem wipe_set {σ : St} {vs : List Nat} {j : Nat} {x : Option V} (h : j ∈ vs) : wipe (σ.set j x) vs = wipe σ vs := by
  apply List.ext_getElem?
  intro k
  rw [wipe_at, wipe_at]
  by_cases q : k ∈ vs
  · rw [if_pos q, if_pos q, List.getElem?_set]
    by_cases z : j = k
    · subst z
      rw [if_pos rfl]
      by_cases hl : j < σ.length
      · rw [if_pos hl, List.getElem?_eq_getElem hl]
        rfl
      · rw [if_neg hl, List.getElem?_eq_none (Nat.le_of_not_lt hl)]
    · rw [if_neg z]
  · rw [if_neg q, if_neg q, List.getElem?_set, if_neg (fun z => q (by rw [← z]; exact h))]
theorem wipe_wipe (σ : St) (vs : List Nat) : wipe (wipe σ vs) vs = wipe σ vs := by
  apply List.ext_getElem?
  intro k
  rw [wipe_at]
  by_cases q : k ∈ vs
  · rw [if_pos q, wipe_at, if_pos q]
    cases σ[k]? <;> rfl
  · rw [if_neg q]
theorem wipeR_at (ρ : Rho) : ∀ (vs : List Nat) (k : Nat), (wipeR ρ vs)[k]? = if k ∈ vs then ρ[k]?.map fun _ => Sl.no else ρ[k]?
  | [], k => by simp [wipeR]
  | v :: vs, k => by
    have len : ∀ vs : List Nat, (wipeR ρ vs).length = ρ.length := fun vs => by
      induction vs with
      | nil => rfl
      | cons v vs ih => rw [wipeR, List.length_set, ih]
    rw [wipeR, List.getElem?_set]
    by_cases h : v = k
    · subst h
      rw [if_pos rfl, if_pos (List.mem_cons_self ..), len]
      by_cases hl : v < ρ.length
      · rw [if_pos hl, List.getElem?_eq_getElem hl]
        rfl
      · rw [if_neg hl, List.getElem?_eq_none (Nat.le_of_not_lt hl)]
        rfl
    · rw [if_neg h, wipeR_at ρ vs k]
      have : (k ∈ v :: vs) ↔ (k ∈ vs) := by
        simp only [List.mem_cons]
        exact ⟨fun z => z.elim (fun q => absurd q.symm h) id, .inr⟩
      by_cases q : k ∈ vs
      · rw [if_pos q, if_pos (this.mpr q)]
      · rw [if_neg q, if_neg (fun z => q (this.mp z))]
theorem wipeR_len (ρ : Rho) : ∀ vs : List Nat, (wipeR ρ vs).length = ρ.length
  | [] => rfl
  | v :: vs => by rw [wipeR, List.length_set, wipeR_len ρ vs]
theorem RS.wipe {w : Wd} {σ : St} {ρ : Rho} (r : RS K w σ ρ) (vs : List Nat) : RS K w (wipe σ vs) (wipeR ρ vs) := by
  refine ⟨by rw [wipe_length, wipeR_len]; exact r.len, fun i d h => ?_, fun i ds h => ?_⟩
  · rw [wipeR_at] at h
    rw [wipe_at]
    by_cases q : i ∈ vs
    · rw [if_pos q] at h
      cases z : ρ[i]? with
      | none => rw [z] at h; cases h
      | some x => rw [z] at h; cases h
    · rw [if_neg q] at h ⊢
      exact r.val i d h
  · rw [wipeR_at] at h
    rw [wipe_at]
    by_cases q : i ∈ vs
    · rw [if_pos q] at h
      cases z : ρ[i]? with
      | none => rw [z] at h; cases h
      | some x => rw [z] at h; cases h
    · rw [if_neg q] at h ⊢
      exact r.acc i ds h
theorem RS.mono {w w' : Wd} {σ : St} {ρ : Rho} (r : RS K w σ ρ) (m : Mv w w') (hb : ∀ a vs, w.H a = some (.lst vs) → w.B a → w'.H a = some (.lst vs) ∧ w'.B a) : RS K w' σ ρ :=
  ⟨r.len, fun i d h => let ⟨v, h1, h2⟩ := r.val i d h; ⟨v, h1, h2.mono m⟩, fun i ds h => let ⟨a, vs, h1, h2, h3, h4⟩ := r.acc i ds h; let ⟨h5, h6⟩ := hb a vs h2 h4; ⟨a, vs, h1, h5, h3.mono m, h6⟩⟩
abbrev EvP := D → Rho → Option Rho
def pNm (i : Nat) : EvP := fun d ρ => match ρ[i]? with
  | some (.acc _) => none
  | some _ => some (ρ.set i (.val d))
  | none => none
def psNil : List D → Rho → Option Rho := fun ds ρ => match ds with
  | [] => some ρ
  | _ => none
def psCons (g : EvP) (h : List D → Rho → Option Rho) : List D → Rho → Option Rho := fun ds ρ => match ds with
  | d :: r => (g d ρ).bind fun ρ1 => h r ρ1
  | _ => none
def pTp (n : Nat) (h : List D → Rho → Option Rho) : EvP := fun d ρ => match d with
  | .tup ds => if ds.length = n then h ds ρ else none
  | _ => none
def SP (K : PySem.W.Frag) (g : TG) (vs : List Nat) (eg : EvP) : Prop := ∀ w σ ρ x d ρ', RS K w σ ρ → RV K w x d → eg d ρ = some ρ' → ∀ Q : St → Hp → Prop, (∀ σ', wipe σ' vs = wipe σ vs → RS K w σ' ρ' → Q σ' w.H) → g x σ w.H Q
def SPs (K : PySem.W.Frag) (g : TGs) (vs : List Nat) (eg : List D → Rho → Option Rho) : Prop := ∀ w σ ρ x d ρ', RS K w σ ρ → RVs K w x d → eg d ρ = some ρ' → ∀ Q : St → Hp → Prop, (∀ σ', wipe σ' vs = wipe σ vs → RS K w σ' ρ' → Q σ' w.H) → g x σ w.H Q
theorem sp_name {i : Nat} {vs : List Nat} (hv : i ∈ vs) : SP K (gName i) vs (pNm i) := fun w σ ρ x d ρ' r rx h Q k => by
  unfold pNm at h
  have fin : ∀ s, ρ[i]? = some s → (∀ ds, s ≠ .acc ds) → some (ρ.set i (.val d)) = some ρ' → gName i x σ w.H Q := fun s hs hn e => by
    cases e
    have hi : i < ρ.length := (List.getElem?_eq_some_iff.mp hs).1
    refine k _ (wipe_set hv) ⟨by rw [List.length_set, List.length_set]; exact r.len, fun j e h => ?_, fun j ds h => ?_⟩
    · by_cases q : i = j
      · subst q
        have z := (get_set_eq h).1
        cases z
        exact ⟨x, by rw [List.getElem?_set, if_pos rfl, if_pos (by rw [r.len]; exact hi)], rx⟩
      · rw [get_set_ne q] at h ⊢
        exact r.val j e h
    · by_cases q : i = j
      · subst q
        have z := (get_set_eq h).1
        cases z
      · rw [get_set_ne q] at h ⊢
        exact r.acc j ds h
  split at h
  · cases h
  · rename_i s hne hs
    exact fin s hs (fun ds z => hne ds z) h
  · cases h
theorem sps_nil {vs : List Nat} : SPs K gNil vs psNil := fun w σ ρ x d ρ' r rx h Q k => by
  unfold psNil at h
  split at h
  · cases h
    cases rx
    exact ⟨rfl, k σ rfl r⟩
  · cases h
theorem sps_cons {g : TG} {gs : TGs} {vs : List Nat} {eg : EvP} {egs : List D → Rho → Option Rho} (h1 : SP K g vs eg) (h2 : SPs K gs vs egs) : SPs K (gCons g gs) vs (psCons eg egs) := fun w σ ρ x d ρ' r rx h Q k => by
  unfold psCons at h
  split at h
  · obtain ⟨ρ1, q1, q2⟩ := bnd h
    cases rx with
    | cons r1 r2 =>
      refine ⟨_, _, rfl, h1 w σ ρ _ _ ρ1 r r1 q1 _ fun σ1 e1 s1 => ?_⟩
      exact h2 w σ1 ρ1 _ _ ρ' s1 r2 q2 Q fun σ2 e2 s2 => k σ2 (e2.trans e1) s2
  · cases h
theorem sp_tup {n : Nat} {gs : TGs} {vs : List Nat} {egs : List D → Rho → Option Rho} (h1 : SPs K gs vs egs) : SP K (gTup K n gs) vs (pTp n egs) := fun w σ ρ x d ρ' r rx h Q k => by
  unfold pTp at h
  split at h
  · split at h
    · rename_i hl
      cases rx with
      | tup q1 q2 q3 => exact ⟨_, _, rfl, SqT.of q1, by rw [q3.length]; exact hl, h1 w σ ρ _ _ ρ' r q3 h Q k⟩
    · cases h
  · cases h
def tYesE : EvT := fun _ S => some (true, S)
theorem st_yes : STt K G tYes tYesE := fun w σ ρ b S' o rs h Q k => by
  cases h
  exact k w rfl (Fr.refl w) o
def lcC (g : EvP) (t : EvT) (e : Ev) (ρ : Rho) : List D → Sto → Option (List D × Sto)
  | [], S => some ([], S)
  | d :: ds, S => (g d ρ).bind fun ρ1 => (t ρ1 S).bind fun b => if b.1 = true then (e ρ1 b.2).bind fun x => (lcC g t e ρ ds x.2).bind fun r => some (x.1 :: r.1, r.2) else lcC g t e ρ ds b.2
def fLc (it : EvL) (vs : List Nat) (g : EvP) (t : EvT) (e : Ev) : EvL := fun ρ S => (it ρ S).bind fun x => (lcC g t e (wipeR ρ vs) x.1 x.2).bind fun r => if r.1.length ≤ sizeLine then some r else none
theorem sf_lc {wi : TI} {ei : EvL} {g : TG} {eg : EvP} {tt : TT} {et : EvT} {te : TE} {ee : Ev} {vs : List Nat} (hi : SI K G wi ei) (hg : SP K g vs eg) (ht : STt K G tt et) (he : SE K G te ee) : SF K G (tLc wi g tt te vs) (fLc ei vs eg et ee) := fun w σ ρ res S' o rs h Q k => by
  obtain ⟨⟨ds, S1⟩, h1, h2⟩ := bnd h
  obtain ⟨⟨rr, S9⟩, h3, h4⟩ := bnd h2
  split at h4
  · rename_i hsz
    cases h4
    refine hi w σ ρ ds S1 o rs h1 _ fun J w1 e1 f1 o1 jk Da hD => ?_
    subst e1
    have rs1 := (rs.fr o f1).wipe vs
    have rsOf : ∀ wc : Wd, Fr w1 (wc.withB w1.B) → Mv w1 wc → (∀ a, wc.B a ↔ (w1.B a ∨ a = Da)) → RS K wc (wipe σ vs) (wipeR ρ vs) := fun wc fc mc bc =>
      rs1.mono mc fun a us z1 z2 => ⟨(fc.hp a _ z1 (o1.dis a z2)).1, (bc a).mpr (.inl z2)⟩
    -- the new list barred
    refine ⟨fun i m H => m = ds.length - i ∧ i ≤ ds.length ∧ ∃ wc av acc rest, wc.H = H ∧ Fr w1 (wc.withB w1.B) ∧ Mv w1 wc ∧ Ok K G wc ∧ (∀ a, wc.B a ↔ (w1.B a ∨ a = Da)) ∧ wc.H Da = some (.lst av) ∧ RVs K wc av acc ∧
      lcC eg et ee (wipeR ρ vs) (ds.drop i) wc.S = some (rest, S') ∧ acc ++ rest = res, ?_, ?_⟩
    · refine ⟨ds.length, by simp, Nat.zero_le _, ?_⟩
      -- the start: as for any new list
      let QQ : VK := fun v H => ∃ p, v = .ref p ∧ ∃ wc av acc rest, wc.H = H ∧ Fr w1 (wc.withB w1.B) ∧ Mv w1 wc ∧ Ok K G wc ∧ (∀ a, wc.B a ↔ (w1.B a ∨ a = p)) ∧ wc.H p = some (.lst av) ∧ RVs K wc av acc ∧
        lcC eg et ee (wipeR ρ vs) (ds.drop 0) wc.S = some (rest, S') ∧ acc ++ rest = res
      have kk : Kf K G w1 [] w1.S QQ := fun p us w' e' f' n' o' hp r' => by
        have m' : Mv w1 (w'.ban p) := ⟨f'.io, fun a u e q => by
          obtain ⟨h1, h2⟩ := f'.mv.hp a u e q
          refine ⟨h1, fun z => ?_⟩
          rcases z with (z | z) | z
          · exact h2 (.inl z)
          · rw [z, n'] at e
            cases e
          · exact h2 (.inr z), f'.fz⟩
        refine ⟨p, rfl, w'.ban p, us, [], res, rfl, ?_, m', o', fun a => by rw [← f'.bb]; exact Iff.rfl, hp, r', ?_, rfl⟩
        · exact ⟨f'.io, f'.hp, f'.fz, rfl⟩
        · rw [List.drop_zero]
          show lcC eg et ee (wipeR ρ vs) ds w'.S = _
          rw [e']
          exact h3
      have z : QQ (.ref Da) (upd w1.H Da (.lst [])) := Kf.new kk o1 .nil hD
      obtain ⟨p, e, z⟩ := z
      cases e
      exact z
    · rintro i m H ⟨rfl, hi', wc, av, acc, rest, rfl, fc, mc, oc, bc, hc, rc, lc, er⟩
      have rsc := rsOf wc fc mc bc
      obtain ⟨j1, j2⟩ := jk i wc mc oc
      by_cases hlt : i < ds.length
      · right
        have hd : ds[i]? = some ds[i] := List.getElem?_eq_getElem hlt
        obtain ⟨go, yl⟩ := j1 _ hd
        rw [List.drop_eq_getElem_cons hlt, lcC] at lc
        obtain ⟨ρ1, q1, lc⟩ := bnd lc
        obtain ⟨⟨b, S3⟩, q2, lc⟩ := bnd lc
        refine ⟨go, fun H' => ∃ wc' av acc rest, wc'.H = H' ∧ Fr w1 (wc'.withB w1.B) ∧ Mv w1 wc' ∧ Ok K G wc' ∧ (∀ a, wc'.B a ↔ (w1.B a ∨ a = Da)) ∧ wc'.H Da = some (.lst av) ∧ RVs K wc' av acc ∧
          lcC eg et ee (wipeR ρ vs) (ds.drop (i + 1)) wc'.S = some (rest, S') ∧ acc ++ rest = res, fun H' z => ⟨_, by omega, rfl, hlt, z⟩, fun x H' y => ?_⟩
        obtain ⟨w2, e2, eS, f2, o2, r2⟩ := yl x H' y
        subst e2
        have rs2 := rsc.fr oc f2
        refine hg w2 (wipe σ vs) (wipeR ρ vs) x _ ρ1 rs2 r2 q1 _ fun σ3 hw3 rs3 => ⟨by rw [hw3, wipe_wipe], ?_⟩
        refine ht w2 σ3 ρ1 b S3 o2 rs3 (by rw [eS]; exact q2) _ fun w3 e3 f3 o3 => ?_
        subst e3
        have f23 : Fr wc w3 := f2.trans f3
        have keepD : ∀ {w5 : Wd}, Fr wc w5 → w5.H Da = some (.lst av) := fun {w5} f5 => (f5.hp Da _ hc (oc.dis Da ((bc Da).mpr (.inr rfl)))).1
        have toFr : ∀ {w5 : Wd}, Fr wc w5 → Fr w1 (w5.withB w1.B) := fun {w5} f5 => ⟨fun l a e => f5.io l a (fc.io l a e), fun a u e q => let ⟨z1, z2⟩ := fc.hp a u e q; f5.hp a u z1 z2, fun a q u e => f5.fz a q u (fc.fz a q u e), rfl⟩
        cases b with
        | false =>
          rw [if_neg Bool.false_ne_true] at lc ⊢
          exact ⟨w3, av, acc, rest, rfl, toFr f23, mc.trans f23.mv, o3, fun a => by rw [f23.bb]; exact bc a, keepD f23, rc.mono f23.mv, lc, er⟩
        | true =>
          rw [if_pos rfl] at lc ⊢
          obtain ⟨⟨d5, S5⟩, q5, lc⟩ := bnd lc
          obtain ⟨⟨r6, S6⟩, q6, lc⟩ := bnd lc
          cases lc
          refine he w3 σ3 ρ1 d5 S5 o3 (rs3.fr o2 f3) q5 _ fun v5 w5 e5 f5 o5 r5 => ?_
          subst e5
          have f25 : Fr wc w5 := f23.trans f5
          have b5 : w5.B Da := by rw [f25.bb]; exact (bc Da).mpr (.inr rfl)
          obtain ⟨m6, o6⟩ := o5.updB (p := Da) (u := .lst (av ++ [v5])) b5 (fun q z y => by rw [keepD f25] at y; cases y)
          have lacc : acc.length < sizeLine := by
            have h5 := congrArg List.length er
            rw [List.length_append, List.length_cons] at h5
            have h6 : res.length ≤ sizeLine := hsz
            omega
          refine ⟨av, keepD f25, by rw [rc.length]; exact lacc, ?_⟩
          refine ⟨{ w5 with H := upd w5.H Da (.lst (av ++ [v5])) }, av ++ [v5], acc ++ [d5], r6, rfl, ?_, (mc.trans f25.mv).trans m6, o6, fun a => ?_, upd_same, ((rc.mono f25.mv).append (.one r5)).mono m6, q6, by rw [List.append_assoc]; exact er⟩
          · have t := toFr f25
            refine ⟨t.io, fun a u e q => ?_, fun a q u e => ?_, rfl⟩
            · obtain ⟨z1, z2⟩ := t.hp a u e q
              refine ⟨?_, z2⟩
              show upd w5.H Da _ a = some u
              rw [upd_ne (ne_of_none e hD)]
              exact z1
            · show upd w5.H Da _ a = some (.frz q u)
              rw [upd_ne (ne_of_none e hD)]
              exact t.fz a q u e
          · show w5.B a ↔ _
            rw [f25.bb]
            exact bc a
      · left
        have e : i = ds.length := by omega
        refine ⟨j2 e, ?_⟩
        rw [e, List.drop_length, lcC] at lc
        cases lc
        rw [List.append_nil] at er
        subst er
        refine k Da av (wc.withB w.B) rfl ?_ (f1.free' o1 hD) ?_ hc ?_
        · have t := f1.trans fc
          exact ⟨t.io, t.hp, t.fz, rfl⟩
        · exact oc.shrink (B := ((wc.withB w.B).ban Da).B) fun a z => (bc a).mpr (by
            rcases z with z | z
            · exact .inl (by rw [f1.bb]; exact z)
            · exact .inr z)
        · exact rc.mono (Mv.shrink (w := wc) (B := ((wc.withB w.B).ban Da).B) fun a z => (bc a).mpr (by
            rcases z with z | z
            · exact .inl (by rw [f1.bb]; exact z)
            · exact .inr z))
  · cases h4
end
end AH

set_option maxRecDepth 100000
set_option maxHeartbeats 2000000
namespace AH
open PySem L2 TL

/-! ### a new list becomes the store's -/
def Wd.own (w : Wd) (p : Addr) (o : MO) : Wd := { w with io := fun l => if l = w.S.next then some p else w.io l, S := w.S.new o }
section
variable {K : PySem.W.Frag} {G : Gx}
theorem Fr.own {w0 w : Wd} {p : Addr} {o : MO} (f : Fr w0 w) (k : Ok K G (w.ban p)) (h0 : w0.H p = none) : Fr w0 (w.own p o) := ⟨fun l a e => by
  show (if l = w.S.next then some p else w.io l) = some a
  have e1 := f.io l a e
  rw [if_neg (fun q => by
    have z : w.io w.S.next = none := k.noio
    rw [q, z] at e1
    cases e1)]
  exact e1, fun a z e nu => by
  obtain ⟨h1, h2⟩ := f.hp a z e nu
  refine ⟨h1, fun ⟨l, q⟩ => ?_⟩
  have q' : (if l = w.S.next then some p else w.io l) = some a := q
  by_cases y : l = w.S.next
  · rw [if_pos y] at q'
    cases q'
    rw [h0] at e
    cases e
  · rw [if_neg y] at q'
    exact h2 ⟨l, q'⟩, f.fz, f.bb⟩
theorem own_mv {w : Wd} {p : Addr} {o : MO} (k : Ok K G (w.ban p)) : Mv (w.ban p) (w.own p o) := ⟨fun l a e => by
  show (if l = w.S.next then some p else w.io l) = some a
  have e1 : w.io l = some a := e
  rw [if_neg (fun q => by
    have z : w.io w.S.next = none := k.noio
    rw [q, z] at e1
    cases e1)]
  exact e1, fun a u e n => ⟨e, fun z => by
  rcases z with z | ⟨l, q⟩
  · exact n (.inl (.inl z))
  · have q' : (if l = w.S.next then some p else w.io l) = some a := q
    by_cases y : l = w.S.next
    · rw [if_pos y] at q'
      cases q'
      exact n (.inl (.inr rfl))
    · rw [if_neg y] at q'
      exact n (.inr ⟨l, q'⟩)⟩, fun _ _ _ e => e⟩
theorem Ok.own {w : Wd} {p : Addr} {ds : List D} {vs : List V} (k : Ok K G (w.ban p)) (h : w.H p = some (.lst vs)) (r : RVs K (w.ban p) vs ds) (hb : ¬ w.B p) : Ok K G (w.own p (.lst ds)) where
  obj := fun l o' e => by
    have e' : (if l = w.S.next then some (MO.lst ds) else w.S.get l) = some o' := e
    show ∃ a, (if l = w.S.next then some p else w.io l) = some a ∧ _
    by_cases q : l = w.S.next
    · rw [if_pos q] at e' ⊢
      cases e'
      exact ⟨p, rfl, vs, h, r.mono (own_mv k)⟩
    · rw [if_neg q] at e' ⊢
      obtain ⟨a, h1, h2⟩ := k.obj l o' e'
      exact ⟨a, h1, h2.mono (own_mv k) rfl⟩
  inj := fun l l' a e e' => by
    have q : (if l = w.S.next then some p else w.io l) = some a := e
    have q' : (if l' = w.S.next then some p else w.io l') = some a := e'
    have np : ∀ l, w.io l ≠ some p := fun l z => k.dis p (.inr rfl) ⟨l, z⟩
    by_cases z : l = w.S.next <;> by_cases z' : l' = w.S.next
    · rw [z, z']
    · rw [if_pos z] at q
      rw [if_neg z'] at q'
      cases q
      exact absurd q' (np _)
    · rw [if_neg z] at q
      rw [if_pos z'] at q'
      cases q'
      exact absurd q (np _)
    · rw [if_neg z] at q
      rw [if_neg z'] at q'
      exact k.inj l l' a q q'
  dom := fun l e => by
    have e' : (if l = w.S.next then some (MO.lst ds) else w.S.get l) = none := e
    show (if l = w.S.next then some p else w.io l) = none
    by_cases q : l = w.S.next
    · rw [if_pos q] at e'
      cases e'
    · rw [if_neg q] at e' ⊢
      exact k.dom l e'
  nxt := fun l e => by
    have e : w.S.next + 1 ≤ l := e
    show (if l = w.S.next then some (MO.lst ds) else w.S.get l) = none
    rw [if_neg (by omega)]
    exact k.nxt l (by show w.S.next ≤ l; omega)
  dis := fun a b ⟨l, q⟩ => by
    have q' : (if l = w.S.next then some p else w.io l) = some a := q
    by_cases z : l = w.S.next
    · rw [if_pos z] at q'
      cases q'
      exact hb b
    · rw [if_neg z] at q'
      exact k.dis a (.inl b) ⟨l, q'⟩
  bh := fun a b => k.bh a (.inl b)

def eOwn (a : EvL) : Ev := fun ρ S => (a ρ S).bind fun x => some (.ref x.2.next, x.2.new (.lst x.1))
theorem se_own {te : TE} {el : EvL} (h : SF K G te el) : SE K G te (eOwn el) := fun w σ ρ d S' o rs hh Q k => by
  obtain ⟨⟨ds, S1⟩, h1, h2⟩ := bnd hh
  cases h2
  refine h w σ ρ ds _ o rs h1 _ fun p vs w1 e1 f1 n1 o1 hp r1 => ?_
  subst e1
  have nb : ¬ w1.B p := fun z => by
    rw [f1.bb] at z
    obtain ⟨q, hq⟩ := o.bh p z
    rw [n1] at hq
    cases hq
  refine k (.ref p) (w1.own p (.lst ds)) rfl (Fr.own f1 o1 n1) (o1.own hp r1 nb) (.ref ?_)
  show (if w1.S.next = w1.S.next then some p else w1.io w1.S.next) = some p
  rw [if_pos rfl]

/-! ### lists of the store, changed -/
theorem Ok.list {w : Wd} {v : V} {l : Nat} {ds : List D} (o : Ok K G w) (r : RV K w v (.ref l)) (h : w.S.get l = some (.lst ds)) : ∃ a vs, v = .ref a ∧ w.io l = some a ∧ w.H a = some (.lst vs) ∧ RVs K w vs ds := by
  cases r with
  | ref h1 =>
    obtain ⟨a, q1, vs, q2, q3⟩ := o.obj l _ h
    rw [h1] at q1
    cases q1
    exact ⟨_, vs, rfl, h1, q2, q3⟩
theorem Ok.relist {w : Wd} {l : Nat} {a : Addr} {ds es : List D} {vs us : List V} (o : Ok K G w) (h : w.S.get l = some (.lst ds)) (hi : w.io l = some a) (hv : w.H a = some (.lst vs)) (r : RVs K w us es) :
    Fr w (w.put l (.lst es) a (.lst us)) ∧ Ok K G (w.put l (.lst es) a (.lst us)) := by
  have nf : ∀ q z, w.H a ≠ some (.frz q z) := fun q z y => by
    rw [hv] at y
    cases y
  have f := Fr.put (o := .lst es) (u := .lst us) hi nf
  exact ⟨f, o.put h hi nf ⟨us, upd_same, r.mono f.mv⟩⟩
/-- o[i] = v, a list of the store -/
def gSb (eo ei : Ev) : EvG := fun d ρ S => (eo ρ S).bind fun x => (ei ρ x.2).bind fun y => match x.1, y.1 with
  | .ref l, .int i => match y.2.get l with
    | some (.lst ds) => (ixN ds.length i).bind fun j => some (ρ, y.2.set l (.lst (ds.set j d)))
    | _ => none
  | _, _ => none
theorem sg_sub {to ti : TE} {eo ei : Ev} (ho : SE K G to eo) (hi : SE K G ti ei) : SG K G (gSub to ti rSetL) (gSb eo ei) := fun w0 w σ ρ x d ρ' S' s r h Q k => by
  obtain ⟨⟨dx, S1⟩, h1, h2⟩ := bnd h
  obtain ⟨⟨dy, S2⟩, h3, h4⟩ := bnd h2
  refine ho w σ ρ dx S1 s.ok s.rs h1 _ fun ov w1 e1 f1 o1 r1 => ?_
  subst e1
  have s1 := s.step f1 o1
  refine hi w1 σ ρ dy S2 s1.ok s1.rs h3 _ fun iv w2 e2 f2 o2 r2 => ?_
  subst e2
  have s2 := s1.step f2 o2
  dsimp only at h4
  split at h4
  · rename_i l i
    split at h4
    · rename_i ds hl
      obtain ⟨j, h5, h6⟩ := bnd h4
      cases h6
      cases r2
      obtain ⟨a, vs, rfl, q1, q2, q3⟩ := o2.list (r1.mono f2.mv) hl
      obtain ⟨f3, o3⟩ := o2.relist hl q1 q2 (q3.set (r.mono (f1.trans f2).mv) j)
      exact ⟨a, vs, i, j, rfl, rfl, q2, by rw [q3.length]; exact h5, k σ (w2.put l (.lst (ds.set j d)) a (.lst (vs.set j x))) rfl ((f1.trans f2).trans f3).mv (s2.step f3 o3)⟩
    · cases h4
  · cases h4
/-- methods of the store's lists -/
def fPopAt (a : D) (bs : List D) (S : Sto) : Option (D × Sto) := match a, bs with
  | .ref l, [.int i] => if 0 ≤ i then match S.get l with
    | some (.lst ds) => (ds[i.toNat]?).bind fun d => if ds.length ≤ sizeLine then some (d, S.set l (.lst (ds.eraseIdx i.toNat))) else none
    | _ => none
    else none
  | _, _ => none
def fAppend (a : D) (bs : List D) (S : Sto) : Option (D × Sto) := match a, bs with
  | .ref l, [d] => match S.get l with
    | some (.lst ds) => if ds.length < sizeLine then some (.non, S.set l (.lst (ds ++ [d]))) else none
    | _ => none
  | _, _ => none
def fExtend (a : D) (bs : List D) (S : Sto) : Option (D × Sto) := match a, bs with
  | .ref l, [d] => match S.get l with
    | some (.lst ds) => (lstOf S d).bind fun es => if ds.length + es.length ≤ sizeLine then some (.non, S.set l (.lst (ds ++ es))) else none
    | _ => none
  | _, _ => none
def fClear (a : D) (bs : List D) (S : Sto) : Option (D × Sto) := match a, bs with
  | .ref l, [] => match S.get l with
    | some (.lst ds) => some (.non, S.set l (.lst []))
    | _ => none
  | _, _ => none
theorem sm_popAt : SM K G rPopAt fPopAt := fun w x dx xs ds d S' o rx r hh Q k => by
  unfold fPopAt at hh
  split at hh
  · split at hh
    · rename_i l i h0
      split at hh
      · rename_i es hl
        obtain ⟨y, h1, h2⟩ := bnd hh
        split at h2
        · rename_i hz
          cases h2
          obtain ⟨v, rfl, r1⟩ := r.one_of
          cases r1
          obtain ⟨a, vs, rfl, q1, q2, q3⟩ := o.list rx hl
          obtain ⟨u, q4, q5⟩ := q3.get h1
          have lt : i.toNat < es.length := (List.getElem?_eq_some_iff.mp h1).1
          have hs : sizeLine = 16777216 := sizeLine_eq
          obtain ⟨f3, o3⟩ := o.relist hl q1 q2 (q3.eraseIdx i.toNat)
          refine ⟨a, vs, i, i.toNat, u, rfl, rfl, q2, by omega, by omega, ?_, q4, k _ (w.put l (.lst (es.eraseIdx i.toNat)) a (.lst (vs.eraseIdx i.toNat))) rfl f3 o3 (q5.mono f3.mv)⟩
          have hx : ixN vs.length i = some i.toNat := by
            unfold ixN
            rw [q3.length, if_pos h0, if_pos (by omega)]
          exact (ixN_seq hx).1
        · cases h2
      · cases hh
    · cases hh
  · cases hh
theorem sm_append : SM K G rAppend fAppend := fun w x dx xs ds d S' o rx r hh Q k => by
  unfold fAppend at hh
  split at hh
  · split at hh
    · rename_i l d' _ es hl
      split at hh
      · rename_i hz
        cases hh
        obtain ⟨v, rfl, r1⟩ := r.one_of
        obtain ⟨a, vs, rfl, q1, q2, q3⟩ := o.list rx hl
        obtain ⟨f3, o3⟩ := o.relist hl q1 q2 (q3.append (.one r1))
        exact ⟨a, vs, v, rfl, rfl, q2, by rw [q3.length]; exact hz, k _ (w.put l (.lst (es ++ [d'])) a (.lst (vs ++ [v]))) rfl f3 o3 .non⟩
      · cases hh
    · cases hh
  · cases hh
theorem sm_extend : SM K G rExtend fExtend := fun w x dx xs ds d S' o rx r hh Q k => by
  unfold fExtend at hh
  split at hh
  · split at hh
    · rename_i l d' _ es hl
      obtain ⟨zs, h1, h2⟩ := bnd hh
      split at h2
      · rename_i hz
        cases h2
        obtain ⟨v, rfl, r1⟩ := r.one_of
        obtain ⟨a, vs, rfl, q1, q2, q3⟩ := o.list rx hl
        obtain ⟨b, us, rfl, q4, q5⟩ := lstOf_rv o r1 h1
        obtain ⟨f3, o3⟩ := o.relist hl q1 q2 (q3.append q5)
        exact ⟨a, b, vs, us, rfl, rfl, q2, q4, by rw [q3.length, q5.length]; exact hz, k _ (w.put l (.lst (es ++ zs)) a (.lst (vs ++ us))) rfl f3 o3 .non⟩
      · cases h2
    · cases hh
  · cases hh
theorem sm_clear : SM K G rClear fClear := fun w x dx xs ds d S' o rx r hh Q k => by
  unfold fClear at hh
  split at hh
  · split at hh
    · rename_i l _ es hl
      cases hh
      cases r
      obtain ⟨a, vs, rfl, q1, q2, q3⟩ := o.list rx hl
      obtain ⟨f3, o3⟩ := o.relist (us := []) (es := []) hl q1 q2 .nil
      exact ⟨a, vs, rfl, rfl, q2, k _ (w.put l (.lst []) a (.lst [])) rfl f3 o3 .non⟩
    · cases hh
  · cases hh
/-- a method of a list -/
theorem tyV_of {w : Wd} {v : V} {l : Nat} (o : Ok K G w) (r : RV K w v (.ref l)) {ds : List D} (h : w.S.get l = some (.lst ds)) : tyV K "list" v w.H := by
  obtain ⟨a, vs, rfl, q1, q2, q3⟩ := o.list r h
  exact ty_list q2
def eBM (f : D → List D → Sto → Option (D × Sto)) (eo : Ev) (el : EvL) : Ev := fun ρ S => (eo ρ S).bind fun x => match x.1 with
  | .ref l => match x.2.get l with
    | some (.lst _) => (el ρ x.2).bind fun y => f x.1 y.1 y.2
    | _ => none
  | _ => none
theorem se_bm {r : V → List V → Hp → VK → Prop} {f : D → List D → Sto → Option (D × Sto)} {to : TE} {ta : TA} {eo : Ev} {el : EvL} (hr : SM K G r f) (ho : SE K G to eo) (ha : SA K G ta el) : SE K G (tBM K "list" r to ta) (eBM f eo el) := fun w σ ρ d S' o rs h Q k => by
  obtain ⟨⟨dx, S1⟩, h1, h2⟩ := bnd h
  refine ho w σ ρ dx S1 o rs h1 _ fun x w1 e1 f1 o1 r1 => ?_
  subst e1
  dsimp only at h2
  split at h2
  · rename_i l
    split at h2
    · rename_i es hl
      obtain ⟨⟨ds, S2⟩, h3, h4⟩ := bnd h2
      refine ⟨tyV_of o1 r1 hl, ha w1 σ ρ ds S2 o1 (rs.fr o f1) h3 _ fun xs w2 e2 f2 o2 r2 => ?_⟩
      subst e2
      exact hr w2 x _ xs ds d S' o2 (r1.mono f2.mv) r2 h4 Q (Kd.from k (f1.trans f2))
    · cases h2
  · cases h2
theorem se_bm0 {r : V → List V → Hp → VK → Prop} {f : D → List D → Sto → Option (D × Sto)} {to : TE} {eo : Ev} (hr : SM K G r f) (ho : SE K G to eo) : SE K G (tBM0 K "list" r to) (eBM f eo aNil) := fun w σ ρ d S' o rs h Q k => by
  obtain ⟨⟨dx, S1⟩, h1, h2⟩ := bnd h
  refine ho w σ ρ dx S1 o rs h1 _ fun x w1 e1 f1 o1 r1 => ?_
  subst e1
  dsimp only at h2
  split at h2
  · rename_i l
    split at h2
    · rename_i es hl
      exact ⟨tyV_of o1 r1 hl, hr w1 x _ [] [] d S' o1 r1 .nil h2 Q (Kd.from k f1)⟩
    · cases h2
  · cases h2

/-! ### defs -/
inductive Out where
  | v (d : D) | f (ds : List D)
abbrev Fn := List D → Sto → Option (Out × Sto)
def KO (K : PySem.W.Frag) (G : Gx) (w : Wd) (o : Out) (S' : Sto) (Q : VK) : Prop := match o with
  | .v d => Kd K G w d S' Q
  | .f ds => Kf K G w ds S' Q
def spOf (K : PySem.W.Frag) (G : Gx) (n : Nat) (F : Fn) : Sp := fun vs H Q _ => ∃ (w : Wd) (ds : List D) (o : Out) (S' : Sto), w.H = H ∧ vs.length = n ∧ Ok K G w ∧ RVs K w vs ds ∧ F ds w.S = some (o, S') ∧ KO K G w o S' Q
def rho0 (m : Nat) (ds : List D) : Rho := ds.map Sl.val ++ List.replicate (m - ds.length) Sl.no
def runB (n m : Nat) (b : EvS) : Fn := fun ds S => if ds.length = n then match b (rho0 m ds) S with
  | some (.nx, _, S') => some (.v .non, S')
  | some (.rt d, _, S') => some (.v d, S')
  | some (.rf ds, _, S') => some (.f ds, S')
  | _ => none
  else none
theorem runB_len {n m : Nat} {b : EvS} : ∀ ds S r, runB n m b ds S = some r → ds.length = n := fun ds S r h => by
  unfold runB at h
  split at h
  · rename_i e
    exact e
  · cases h
theorem rho0_rs {w : Wd} {N : List Str} {vs : List V} {ds : List D} (r : RVs K w vs ds) (hl : ds.length ≤ N.length) : RS K w (L2.start N vs) (rho0 N.length ds) := by
  have e := r.length
  have hi : ∀ (i : Nat) (s : Sl), (rho0 N.length ds)[i]? = some s → (∀ d, s = .val d → ds[i]? = some d) ∧ ∀ es, s ≠ .acc es := fun i s h => by
    unfold rho0 at h
    by_cases q : i < ds.length
    · rw [List.getElem?_append_left (by rw [List.length_map]; exact q), List.getElem?_map] at h
      cases z : ds[i]? with
      | none => rw [z] at h; cases h
      | some d =>
        rw [z] at h
        cases h
        exact ⟨fun d' e' => by cases e'; rfl, fun es z => by cases z⟩
    · rw [List.getElem?_append_right (by rw [List.length_map]; omega), List.getElem?_replicate] at h
      split at h
      · cases h
        exact ⟨fun d' e' => (by cases e'), fun es z => (by cases z)⟩
      · cases h
  refine ⟨?_, fun i d h => ?_, fun i es h => absurd rfl ((hi i _ h).2 es)⟩
  · unfold L2.start rho0
    simp [e]
  · have hd := (hi i _ h).1 d rfl
    obtain ⟨v, h1, h2⟩ := r.get hd
    refine ⟨v, ?_, h2⟩
    unfold L2.start
    have lt : i < vs.length := (List.getElem?_eq_some_iff.mp h1).1
    rw [List.getElem?_append_left (by rw [List.length_map]; exact lt), List.getElem?_map, h1]
    rfl
theorem rho0_acc {N : Nat} {ds : List D} {i : Nat} {es : List D} : (rho0 N ds)[i]? ≠ some (.acc es) := fun h => by
  unfold rho0 at h
  by_cases q : i < ds.length
  · rw [List.getElem?_append_left (by rw [List.length_map]; exact q), List.getElem?_map] at h
    cases z : ds[i]? with
    | none => rw [z] at h; cases h
    | some d => rw [z] at h; cases h
  · rw [List.getElem?_append_right (by rw [List.length_map]; omega), List.getElem?_replicate] at h
    split at h <;> cases h
/-- a body does what its run says -/
theorem body_ok {N : List Str} {n : Nat} {t : TS} {b : EvS} (hs : SS K G t b) {vs : List V} {H : Hp} {Q : VK} {E : XK} (hn : n ≤ N.length) (h : spOf K G n (runB n N.length b) vs H Q E) : t { nx := fun _ H' => Q .non H', rt := Q } (L2.start N vs) H := by
  obtain ⟨w, ds, o, S', rfl, hl, ok, r, hh, k⟩ := h
  unfold runB at hh
  split at hh
  · rename_i hd
    have sr : SR K G w w (L2.start N vs) (rho0 N.length ds) :=
      ⟨ok, rho0_rs r (by omega), fun _ _ e => e, fun _ _ e n => ⟨e, n⟩, fun _ _ _ e => e, fun a => ⟨.inl, fun z => z.elim id fun ⟨i, es, z, _⟩ => absurd z rho0_acc⟩, fun a ⟨i, es, z, _⟩ => absurd z rho0_acc, fun i j es fs a z => absurd z rho0_acc, ok.bh⟩
    cases e : b (rho0 N.length ds) w.S with
    | none => rw [e] at hh; cases hh
    | some z =>
      obtain ⟨fl, ρ', S1⟩ := z
      rw [e] at hh
      refine hs w w _ _ fl ρ' S1 sr e _ ?_
      cases fl with
      | nx =>
        cases hh
        intro σ' w' e' m s
        obtain ⟨q1, q2, q3⟩ := s.out
        exact k .non (w'.withB w.B) e' q1 q2 .non
      | rt d =>
        cases hh
        exact fun v w' e' f o r => k v w' e' f o r
      | rf es =>
        cases hh
        exact fun p us w' e' f n o hp r => k p us w' e' f n o hp r
      | bk => cases hh
      | ct => cases hh
  · cases hh
/-! calls -/
def callE (F : Fn) (ds : List D) (S : Sto) : Option (D × Sto) := (F ds S).bind fun r => match r.1 with
  | .v d => some (d, r.2)
  | .f es => some (.lst es, r.2)
def callF (F : Fn) (ds : List D) (S : Sto) : Option (List D × Sto) := (F ds S).bind fun r => match r.1 with
  | .v _ => none
  | .f es => some (es, r.2)
theorem se_call {n : Nat} {F : Fn} {ta : TA} {el : EvL} {E : XK} (hn : ∀ ds S r, F ds S = some r → ds.length = n) (ha : SA K G ta el) : SE K G (tCall (spOf K G n F) [] E ta) (eN (callE F) el) := fun w σ ρ d S' o rs h Q k => by
  obtain ⟨⟨ds, S1⟩, h1, h2⟩ := bnd h
  refine ha w σ ρ ds S1 o rs h1 _ fun vs w1 e1 f1 o1 r1 => ?_
  subst e1
  obtain ⟨⟨r, S2⟩, h3, h4⟩ := bnd h2
  rw [List.append_nil]
  refine ⟨w1, ds, r, S2, rfl, by rw [r1.length]; exact hn _ _ _ h3, o1, r1, h3, ?_⟩
  cases r with
  | v d' => cases h4; exact Kd.from k f1
  | f es => cases h4; exact Kf.of (Kd.from k f1) o1
theorem sf_call {n : Nat} {F : Fn} {ta : TA} {el : EvL} {E : XK} (hn : ∀ ds S r, F ds S = some r → ds.length = n) (ha : SA K G ta el) : SF K G (tCall (spOf K G n F) [] E ta) (eN (callF F) el) := fun w σ ρ d S' o rs h Q k => by
  obtain ⟨⟨ds, S1⟩, h1, h2⟩ := bnd h
  refine ha w σ ρ ds S1 o rs h1 _ fun vs w1 e1 f1 o1 r1 => ?_
  subst e1
  obtain ⟨⟨r, S2⟩, h3, h4⟩ := bnd h2
  rw [List.append_nil]
  refine ⟨w1, ds, r, S2, rfl, by rw [r1.length]; exact hn _ _ _ h3, o1, r1, h3, ?_⟩
  cases r with
  | v d' => cases h4
  | f es => cases h4; exact Kf.from k f1 o1
end
end AH
namespace AH
open PySem L2 TL
section
variable {K : PySem.W.Frag} {G : Gx}
theorem rv_str {z : Str} {c : List Nat} (h : z = ⟨c.toArray⟩) (w : Wd) : RV K w (.str z) (.str c) := by
  rw [h]
  exact .str
theorem rv_int {i : Int} (w : Wd) : RV K w (.int i) (.int i) := .int
theorem rv_bl {i : Bool} (w : Wd) : RV K w (.bl i) (.bl i) := .bl
theorem rv_non (w : Wd) : RV K w .non .non := .non
theorem rv_raw {v : V} (w : Wd) : RV K w v (.raw v) := .raw
def S1 (K : PySem.W.Frag) (G : Gx) (r : V → Hp → VK → Prop) (f : D → Sto → Option (D × Sto)) : Prop := ∀ w x dx d S', Ok K G w → RV K w x dx → f dx w.S = some (d, S') → ∀ Q, Kd K G w d S' Q → r x w.H Q
theorem se_un {r : V → Hp → VK → Prop} {f : D → Sto → Option (D × Sto)} {ta : TE} {ea : Ev} (hr : S1 K G r f) (ha : SE K G ta ea) : SE K G (tUn r ta) (e1 f ea) := fun w σ ρ d S' o rs h Q k => by
  obtain ⟨⟨dx, S1⟩, h1, h2⟩ := bnd h
  refine ha w σ ρ dx S1 o rs h1 _ fun x w1 e1 f1 o1 r1 => ?_
  subst e1
  exact hr w1 x dx d S' o1 r1 h2 Q (Kd.from k f1)
theorem s1_neg : S1 K G (rU fun i => .int (-i)) fNeg := fun w x dx d S' o rx hh Q k => by
  unfold fNeg at hh
  split at hh
  · cases hh
    cases rx
    exact ⟨_, rfl, Kd.now k o .int⟩
  · cases hh
/-- nothing is promised -/
theorem fn_none {P : Program} {w : World} {mg : Str → Option Value} {base : Heap} {k : Nat} {f : Addr} {fd : FuncData} {ps : List Str} : FnOk P w K mg base CX0 k f fd ps (spOf K G ps.length fun _ _ => none) :=
  ⟨fun vs H Q E h => (let ⟨_, _, _, _, _, hl, _⟩ := h; hl), fun A outer s H args us vs Q E hr e0 hb r h => (let ⟨_, _, _, _, _, _, _, _, hh, _⟩ := h; nomatch hh)⟩
theorem sp_len {n : Nat} {F : Fn} : ∀ (vs : List V) (H : Hp) (Q : VK) (E : XK), spOf K G n F vs H Q E → vs.length = n := fun vs H Q E h => let ⟨_, _, _, _, _, hl, _⟩ := h; hl
end
end AH

set_option maxRecDepth 100000
set_option maxHeartbeats 2000000
/-! the layer's rules with the written part named -/
namespace AH
open PySem L2 TL PySem.Spec PyProof.Rows
section
variable {X : Cx}
theorem opAdd (K : PySem.W.Frag) (h : X.K = K := by rfl) : OpR X (binaryOp .Add) (rAddAny K) := by subst h; exact op_addAny
theorem opEq (K : PySem.W.Frag) (hu : X.A.units + 64 < cLine) (h : X.K = K := by rfl) : OpR X (compareOp .Eq) (rEqAny K) := by subst h; exact op_eqAny hu
theorem opNe (K : PySem.W.Frag) (hu : X.A.units + 64 < cLine) (h : X.K = K := by rfl) : OpR X (compareOp .NotEq) (rNeAny K) := by subst h; exact op_neAny hu
theorem opIn (K : PySem.W.Frag) (h : X.K = K := by rfl) : OpR X (compareOp .In) (rIn K false) := by subst h; exact op_in_seq
theorem opNotIn (K : PySem.W.Frag) (h : X.K = K := by rfl) : OpR X (compareOp .NotIn) (rIn K true) := by subst h; exact op_notIn_seq
theorem ixSeq (K : PySem.W.Frag) (h : X.K = K := by rfl) : IxR X (rIx K) := by subst h; exact ix_seq
theorem slAny (K : PySem.W.Frag) (h : X.K = K := by rfl) : SlR X (rSlAny K) := by subst h; exact sl_any
theorem slList (K : PySem.W.Frag) (h : X.K = K := by rfl) : SlR X (rSlL K) := by subst h; exact sl_list
theorem callLen (K : PySem.W.Frag) (h : X.K = K := by rfl) : CallR X (.builtin "len") (rLenAny K) := by subst h; exact call_len
theorem callList (K : PySem.W.Frag) (h : X.K = K := by rfl) : CallR X (.type "list") (rListOfR K) := by subst h; exact call_list_of
theorem callTup (K : PySem.W.Frag) (h : X.K = K := by rfl) : CallR X (.type "tuple") (rTupOfR K) := by subst h; exact call_tuple_of
theorem callIsi (K : PySem.W.Frag) (h : X.K = K := by rfl) : CallR X (.builtin "isinstance") (rIsi K) := by subst h; exact call_isi
def rJoinR (K : PySem.W.Frag) : V → List V → Hp → VK → Prop := fun x xs H Q => ∃ a p, ∃ ys : List Str, x = .str a ∧ xs = [.ref p] ∧ (SqL K H p (ys.map V.str) ∨ SqT K H p (ys.map V.str)) ∧ (ys.map (·.length)).sum + ys.length * a.length ≤ 16777216 ∧ Q (.str (Txt.join a ys)) H
theorem piList (K : PySem.W.Frag) {tg l : Expr} {tl : TE} (hl : PE X l tl) (h : X.K = K := by rfl) : PI X tg l (iList K tl) := by subst h; exact pi_list hl
theorem piTup (K : PySem.W.Frag) {tg l : Expr} {tl : TE} (hl : PE X l tl) (h : X.K = K := by rfl) : PI X tg l (iTup K tl) := by subst h; exact pi_tup hl
theorem piEnum (K : PySem.W.Frag) {e : Expr} {ta : TA} {p pos tpos : Pos} {elts : List Expr} {kk : Nat} (hg : Gl X "enumerate") (hm : X.mg "enumerate" = none) (ha : PA X [e] ta) (hs : starEach [e] X.env = [(false, eval e X.env)] := by rfl) (h : X.K = K := by rfl) :
    PI X (.Tuple elts kk tpos) (.Call (.Name "enumerate" p) [e] [] pos) (iEnum K ta) := by subst h; exact pi_enum hg hm ha hs
theorem pgTup (K : PySem.W.Frag) {es : List Expr} {k : Nat} {t : TGs} {n : Nat} {pos : Pos} (hc : X.calm = true) (hs : PGs X es t)
    (hn : (assignEach es X.env).length = n := by rfl) (hst : (assignEach es X.env).findIdx? (·.1) = none := by rfl) (h : X.K = K := by rfl) : PG X (.Tuple es k pos) (gTup K n t) := by subst h; exact pg_tup hc hs hn hst
theorem peBm0 (K : PySem.W.Frag) {T : String} {name : Str} {id : String} {o : Expr} {to : TE} {r : V → List V → Hp → VK → Prop} {apos pos : Pos} (pa : PlainAttrs T) (slot : Slot T name id) (hty : typeOf (.builtin id) = pure (.type "method_descriptor")) (hm : MtR X id r) (ho : PE X o to)
    (hbase : attributeBase o name X.env (eval o X.env) = eval o X.env := by rfl) (hline : (apos.endLine == pos.line) = true := by rfl) (h : X.K = K := by rfl) : PE X (.Call (.Attribute o name apos) [] [] pos) (tBM0 K T r to) := by subst h; exact pe_bm0 pa slot hty hm ho hbase hline
theorem peBm (K : PySem.W.Frag) {T : String} {name : Str} {id : String} {o e : Expr} {es : List Expr} {to : TE} {t : TA} {r : V → List V → Hp → VK → Prop} {apos pos : Pos} (pa : PlainAttrs T) (slot : Slot T name id) (hty : typeOf (.builtin id) = pure (.type "method_descriptor")) (hm : MtR X id r) (ho : PE X o to) (ha : PA X (e :: es) t)
    (hbase : attributeBase o name X.env (eval o X.env) = eval o X.env := by rfl)
    (hfew : ((backTo pos (starEach (e :: es) X.env)).all (fun x => !x.1) && (backToKw pos (keywordEach [] X.env)).all (fun x => x.1.isSome)
      && decide ((e :: es).length + ([] : List Keyword).length + (if ([] : List Keyword).isEmpty then 0 else 1) < 30)) = true := by rfl)
    (hline : (apos.endLine == pos.line) = true := by rfl) (hs : starEach (e :: es) X.env = (false, eval e X.env) :: starEach es X.env := by rfl) (hplain : (backTo pos (starEach es X.env)).any (·.1) = false := by rfl) (h : X.K = K := by rfl) :
    PE X (.Call (.Attribute o name apos) (e :: es) [] pos) (tBM K T r to t) := by subst h; exact pe_bm pa slot hty hm ho ha hbase hfew hline hs hplain
theorem peFld (K : PySem.W.Frag) {e : Expr} {ta : TE} {f : Str} {pos : Pos} (he : PE X e ta) (hb : attributeBase e f X.env (eval e X.env) = eval e X.env := by rfl) (h : X.K = K := by rfl) : PE X (.Attribute e f pos) (tFld K ta f) := by subst h; exact pe_fld he hb
end
end AH

set_option maxRecDepth 100000
set_option maxHeartbeats 2000000
/-! a text told backward -/
namespace AH
open PySem L2 TL PySem.Spec PyProof.Rows PySem.Builtin.Str
theorem fm_get {xs : List Nat} : ∀ ks : List Nat, (∀ k ∈ ks, k < xs.length) → ks.filterMap (fun k => xs[k]?) = ks.map fun k => xs.getD k 0
  | [], _ => rfl
  | k :: ks, h => by
    have h1 := h k (List.mem_cons_self ..)
    rw [List.filterMap_cons, List.getElem?_eq_getElem h1, List.map_cons, fm_get ks fun j hj => h j (List.mem_cons_of_mem _ hj)]
    simp [List.getD, List.getElem?_eq_getElem h1]
theorem idx_rev (n : Nat) : strSliceIndices none none (-1) n = (List.range n).map fun k => n - 1 - k := by
  show sliceRange ((n : Int) - 1) (-1) (-1) = _
  unfold sliceRange
  have e : (if (-1 : Int) > 0 then (if ((n : Int) - 1) < -1 then (-1 - ((n : Int) - 1) + (-1) - 1) / (-1) else 0) else (if ((n : Int) - 1) > -1 then (((n : Int) - 1) - (-1) - (-1) - 1) / (-(-1)) else 0)).toNat = n := by
    rw [if_neg (by omega)]
    split
    · have : (((n : Int) - 1) - (-1) - (-1) - 1) / (-(-1)) = (n : Int) := by
        rw [show (-(-1) : Int) = 1 from rfl, Int.ediv_one]
        omega
      rw [this]
      omega
    · omega
  dsimp only
  rw [e]
  apply List.map_congr_left
  intro k hk
  omega
theorem pick_rev (xs : List Nat) : (strSliceIndices none none (-1) xs.length).filterMap (fun k => xs[k]?) = xs.reverse := by
  rw [idx_rev, fm_get _ (by
    intro k hk
    rw [List.mem_map] at hk
    obtain ⟨j, hj, rfl⟩ := hk
    have := List.mem_range.mp hj
    omega)]
  apply List.ext_getElem?
  intro i
  by_cases h : i < xs.length
  · rw [List.getElem?_reverse h]
    simp [h, List.getD]
    rw [List.getElem?_eq_getElem (by omega)]
    rfl
  · rw [List.getElem?_eq_none (by simp; omega), List.getElem?_eq_none (by simp; omega)]
def tRevS (te : TE) : TE := fun σ H Q => te σ H fun x H1 => ∃ c : List Nat, x = .str ⟨c.toArray⟩ ∧ c.length ≤ sizeLine ∧ Q (.str ⟨c.reverse.toArray⟩) H1
theorem pe_revS {X : Cx} {e : Expr} {te : TE} {k : Nat} {p1 p2 p3 pos : Pos} (he : PE X e te) : PE X (.Subscript e (.Slice none none (some (.UnaryOp .USub (.Constant (.int 1) k p1) p2)) p3) pos) (tRevS te) := by
  refine ⟨fun pins s σ H Q I h => ?_⟩
  refine Subscript_ (thn (he.run pins s σ H _ I h) fun v s1 ⟨x, H1, I1, r1, q1⟩ => ?_)
  obtain ⟨c, ex, hz, q⟩ := q1
  subst ex
  obtain ⟨t, rfl⟩ := r1
  have hst : PO X (some (.UnaryOp .USub (.Constant (.int 1) k p1) p2)) (tPart (tUn (rU fun i => .int (-i)) (tC (.int 1)))) := po_some (pe_un un_neg pe_int)
  refine wpAny_Slice (thn (po_none.run pins s1 σ H1 (fun o H2 => o = none ∧ H2 = H1) I1 ⟨rfl, rfl⟩) fun vl s2 ⟨l, H2, I2, pl, el, e2⟩ => ?_)
  subst el e2
  refine thn (po_none.run pins s2 σ H2 (fun o H3 => o = none ∧ H3 = H2) I2 ⟨rfl, rfl⟩) fun vu s3 ⟨u, H3, I3, pu, eu, e3⟩ => ?_
  subst eu e3
  refine thn (hst.run pins s3 σ H3 (fun o H4 => o = some (-1) ∧ H4 = H3) I3 ⟨1, rfl, -1, rfl, rfl, rfl⟩) fun vs s4 ⟨o, H4, I4, ps, eo, e4⟩ => ?_
  subst eo e4
  have I5 : Inv X pins σ H4 { s4 with heap := s4.heap.push { cls := .type "slice", data := .fields #[vl, vu, vs] } } := I4.kept (t' := s4.toks) fun b ob q => Heap.get?_push_of_some _ q
  obtain ⟨l', rfl, el⟩ := IsPart.raw pl
  obtain ⟨u', rfl, eu⟩ := IsPart.raw pu
  obtain ⟨st', rfl, est⟩ := IsPart.raw ps
  cases l' with
  | some y => cases el
  | none =>
    cases u' with
    | some y => cases eu
    | none =>
      cases st' with
      | none => cases est
      | some y =>
        obtain ⟨y1, y2⟩ := y
        have ey : y1 = -1 := by
          have := (Option.some.inj est).symm
          first | exact this | exact this.symm
        subst ey
        show wpAny (model X.prog X.w) X.A (subscriptTail e (.Slice none none (some (.UnaryOp .USub (.Constant (.int 1) k p1) p2)) p3) (.str ⟨c.toArray⟩ t) (.ref s4.heap.objs.size)) (EP X pins σ Q) X.xe { s4 with heap := s4.heap.push { cls := .type "slice", data := .fields #[_, _, _] } }
        refine tail_any (ops := [.str ⟨c.toArray⟩ t, .ref s4.heap.objs.size]) (typeIs_str _ _ _) (F.slot_str_getitem.lookup) ?_ (by with_unfolding_all rfl)
        refine wpAny_getItem_str_slice (l := none) (u := none) (st := some (-1, y2)) ⟨_, Heap.get?_push_size _ rfl, rfl, rfl⟩ rfl ?_
        have e1 : ((slicePicked ⟨c.toArray⟩ none none (some (-1, y2))).filterMap ((⟨c.toArray⟩ : Str).cps[·]?)) = c.reverse := by
          have := pick_rev c
          show ((strSliceIndices none none (-1) (⟨c.toArray⟩ : Str).length).filterMap fun k => c.toArray[k]?) = c.reverse
          rw [str_len, ← this]
          congr 1
          funext k
          simp
        show Made.post (if (((-1 : Int) == 1) && ((slicePicked ⟨c.toArray⟩ none none (some (-1, y2))).length == (⟨c.toArray⟩ : Str).length)) = true then Made.val (.str ⟨c.toArray⟩ t) else Made.str ⟨((slicePicked ⟨c.toArray⟩ none none (some (-1, y2))).filterMap ((⟨c.toArray⟩ : Str).cps[·]?)).toArray⟩) (EP X pins σ Q) _
        rw [if_neg (by simp), e1]
        refine ⟨?_, .str _, H4, I5.tok _, ⟨_, rfl⟩, q⟩
        rw [str_len, List.length_reverse]
        exact hz
section
variable {K : PySem.W.Frag} {G : Gx}
def fRev (a : D) (S : Sto) : Option (D × Sto) := match a with
  | .str z => if z.length ≤ sizeLine then some (.str z.reverse, S) else none
  | _ => none
def eRev (a : Ev) : Ev := e1 fRev a
theorem se_revS {te : TE} {ea : Ev} (ha : SE K G te ea) : SE K G (tRevS te) (eRev ea) := fun w σ ρ d S' o rs h Q k => by
  obtain ⟨⟨dx, S1⟩, h1, h2⟩ := bnd h
  refine ha w σ ρ dx S1 o rs h1 _ fun x w1 e1 f1 o1 r1 => ?_
  subst e1
  unfold fRev at h2
  dsimp only at h2
  split at h2
  · rename_i z
    split at h2
    · rename_i hz
      cases h2
      cases r1
      exact ⟨z, rfl, hz, Kd.now (Kd.from k f1) o1 .str⟩
    · cases h2
  · cases h2
end
end AH

set_option maxRecDepth 100000
set_option maxHeartbeats 2000000
/-! runs and what holds behind them: plain Lean -/
namespace AH
open PySem L2 TL
def Sto.nil0 : Sto := ⟨0, fun _ => none⟩
/-- a run ends, and behind it P -/
def W {α : Type} (o : Option (α × Sto)) (P : α → Sto → Prop) : Prop := ∃ a S, o = some (a, S) ∧ P a S
abbrev PS := Fl → Rho → Sto → Prop
def WS (o : Option (Fl × Rho × Sto)) (P : PS) : Prop := ∃ f ρ S, o = some (f, ρ, S) ∧ P f ρ S
section
variable {α β : Type} {P : α → Sto → Prop} {S S1 : Sto} {ρ : Rho} {Q : PS}
theorem W.mono {o : Option (α × Sto)} {P' : α → Sto → Prop} (h : W o P) (k : ∀ a S, P a S → P' a S) : W o P' := by
  obtain ⟨a, S, e, p⟩ := h
  exact ⟨a, S, e, k a S p⟩
theorem WS.mono {o : Option (Fl × Rho × Sto)} {Q' : PS} (h : WS o Q) (k : ∀ f ρ S, Q f ρ S → Q' f ρ S) : WS o Q' := by
  obtain ⟨a, r, S, e, p⟩ := h
  exact ⟨a, r, S, e, k a r S p⟩
theorem w_ret {a : α} (h : P a S) : W (some (a, S)) P := ⟨a, S, rfl, h⟩
theorem w_bind {o : Option (β × Sto)} {f : β × Sto → Option (α × Sto)} (h : W o fun b S1 => W (f (b, S1)) P) : W (o.bind f) P := by
  obtain ⟨b, S1, rfl, a, S2, e, p⟩ := h
  exact ⟨a, S2, e, p⟩
theorem ws_bind {o : Option (β × Sto)} {f : β × Sto → Option (Fl × Rho × Sto)} (h : W o fun b S1 => WS (f (b, S1)) Q) : WS (o.bind f) Q := by
  obtain ⟨b, S1, rfl, a, r, S2, e, p⟩ := h
  exact ⟨a, r, S2, e, p⟩
/-! expressions -/
theorem we_var {i : Nat} {d : D} {P : D → Sto → Prop} (e : ρ[i]? = some (.val d)) (h : P d S) : W (eVar i ρ S) P := by
  refine ⟨d, S, ?_, h⟩
  unfold eVar
  rw [e]
theorem we_c {d : D} {P : D → Sto → Prop} (h : P d S) : W (eC d ρ S) P := w_ret h
theorem we_2 {f : D → D → Sto → Option (α × Sto)} {a b : Ev} (h : W (a ρ S) fun x S1 => W (b ρ S1) fun y S2 => W (f x y S2) P) : W (e2 f a b ρ S) P :=
  w_bind (h.mono fun _ _ q => w_bind q)
theorem we_1 {f : D → Sto → Option (α × Sto)} {a : Ev} (h : W (a ρ S) fun x S1 => W (f x S1) P) : W (e1 f a ρ S) P := w_bind h
theorem we_n {f : List D → Sto → Option (α × Sto)} {a : EvL} (h : W (a ρ S) fun x S1 => W (f x S1) P) : W (eN f a ρ S) P := w_bind h
theorem we_3 {f : D → Option Int → Option Int → Sto → Option (α × Sto)} {a : Ev} {b c : EvO} (h : W (a ρ S) fun x S1 => W (b ρ S1) fun y S2 => W (c ρ S2) fun z S3 => W (f x y z S3) P) : W (e3 f a b c ρ S) P :=
  w_bind (h.mono fun _ _ q => w_bind (q.mono fun _ _ q => w_bind q))
theorem wo_none {P : Option Int → Sto → Prop} (h : P none S) : W (oNone ρ S) P := w_ret h
theorem wo_some {P : Option Int → Sto → Prop} {a : Ev} (h : W (a ρ S) fun x S1 => ∃ i, x = .int i ∧ P (some i) S1) : W (oSome a ρ S) P :=
  w_bind (h.mono fun x S1 ⟨i, e, p⟩ => by
    subst e
    exact w_ret p)
theorem wl_nil {P : List D → Sto → Prop} (h : P [] S) : W (aNil ρ S) P := w_ret h
theorem wl_cons {P : List D → Sto → Prop} {a : Ev} {b : EvL} (h : W (a ρ S) fun x S1 => W (b ρ S1) fun y S2 => P (x :: y) S2) : W (aCons a b ρ S) P :=
  w_bind (h.mono fun _ _ q => w_bind (q.mono fun _ _ q => w_ret q))
theorem we_V {P : D → Sto → Prop} {a : EvL} (h : W (a ρ S) fun x S1 => P (.lst x) S1) : W (eV a ρ S) P := w_bind (h.mono fun _ _ q => w_ret q)
theorem we_own {P : D → Sto → Prop} {a : EvL} (h : W (a ρ S) fun x S1 => P (.ref S1.next) (S1.new (.lst x))) : W (eOwn a ρ S) P := w_bind (h.mono fun _ _ q => w_ret q)
theorem we_tup {P : D → Sto → Prop} {a : EvL} (h : W (a ρ S) fun x S1 => x.length ≤ 16777216 ∧ P (.tup x) S1) : W (eTup a ρ S) P := w_bind (h.mono fun x S1 ⟨q, p⟩ => by
  show W (if x.length ≤ sizeLine then some (.tup x, S1) else none) P
  rw [if_pos (by rw [sizeLine_eq]; exact q)]
  exact w_ret p)
theorem wl_lst {P : List D → Sto → Prop} {a : EvL} (h : W (a ρ S) fun x S1 => x.length ≤ 16777216 ∧ P x S1) : W (fLst a ρ S) P := w_bind (h.mono fun x S1 ⟨q, p⟩ => by
  show W (if x.length ≤ sizeLine then some (x, S1) else none) P
  rw [if_pos (by rw [sizeLine_eq]; exact q)]
  exact w_ret p)
theorem wt_of {P : Bool → Sto → Prop} {a : Ev} (h : W (a ρ S) fun x S1 => ∃ b, x = .bl b ∧ P b S1) : W (tOf a ρ S) P :=
  w_bind (h.mono fun x S1 ⟨i, e, p⟩ => by
    subst e
    exact w_ret p)
theorem wt_or {P : Bool → Sto → Prop} {a b : EvT} (h : W (a ρ S) fun x S1 => (x = true → P true S1) ∧ (x = false → W (b ρ S1) P)) : W (tOrE a b ρ S) P :=
  w_bind (h.mono fun x S1 ⟨p, q⟩ => by
    cases x with
    | true => exact w_ret (p rfl)
    | false => exact q rfl)
theorem wt_and {P : Bool → Sto → Prop} {a b : EvT} (h : W (a ρ S) fun x S1 => (x = false → P false S1) ∧ (x = true → W (b ρ S1) P)) : W (tAndE a b ρ S) P :=
  w_bind (h.mono fun x S1 ⟨p, q⟩ => by
    cases x with
    | false => exact w_ret (p rfl)
    | true => exact q rfl)
theorem wt_not {P : Bool → Sto → Prop} {a : EvT} (h : W (a ρ S) fun x S1 => P (!x) S1) : W (tNotE a ρ S) P := w_bind (h.mono fun _ _ q => w_ret q)
theorem we_and {P : D → Sto → Prop} {a b : Ev} (h : W (a ρ S) fun x S1 => ∃ c, x = .bl c ∧ (c = false → P (.bl false) S1) ∧ (c = true → W (b ρ S1) P)) : W (eAndE a b ρ S) P :=
  w_bind (h.mono fun x S1 ⟨c, e, p, q⟩ => by
    subst e
    cases c with
    | false => exact w_ret (p rfl)
    | true => exact q rfl)
theorem we_or {P : D → Sto → Prop} {a b : Ev} (h : W (a ρ S) fun x S1 => ∃ c, x = .bl c ∧ (c = true → P (.bl true) S1) ∧ (c = false → W (b ρ S1) P)) : W (eOrE a b ρ S) P :=
  w_bind (h.mono fun x S1 ⟨c, e, p, q⟩ => by
    subst e
    cases c with
    | true => exact w_ret (p rfl)
    | false => exact q rfl)
theorem we_not {P : D → Sto → Prop} {a : Ev} (h : W (a ρ S) fun x S1 => ∃ c, x = .bl c ∧ P (.bl (!c)) S1) : W (eNotE a ρ S) P :=
  w_bind (h.mono fun x S1 ⟨c, e, p⟩ => by
    subst e
    exact w_ret p)
theorem we_if {P : D → Sto → Prop} {t : EvT} {a b : Ev} (h : W (t ρ S) fun c S1 => (c = true → W (a ρ S1) P) ∧ (c = false → W (b ρ S1) P)) : W (eIf t a b ρ S) P :=
  w_bind (h.mono fun x S1 ⟨p, q⟩ => by
    cases x with
    | true => exact p rfl
    | false => exact q rfl)
def isNon : D → Option Bool
  | .non => some true
  | .raw _ => none
  | _ => some false
theorem we_isN {P : D → Sto → Prop} {a : Ev} (h : W (a ρ S) fun x S1 => ∃ c, isNon x = some c ∧ P (.bl c) S1) : W (eIsN a ρ S) P :=
  w_bind (h.mono fun x S1 ⟨c, e, p⟩ => by
    cases x <;> cases e <;> exact w_ret p)
theorem we_notN {P : D → Sto → Prop} {a : Ev} (h : W (a ρ S) fun x S1 => ∃ c, isNon x = some c ∧ P (.bl (!c)) S1) : W (eNotN a ρ S) P :=
  w_bind (h.mono fun x S1 ⟨c, e, p⟩ => by
    cases x <;> cases e <;> exact w_ret p)
theorem we_chain {P : D → Sto → Prop} {f g : D → D → Sto → Option (D × Sto)} {a b c : Ev} (h : W (a ρ S) fun x S1 => W (b ρ S1) fun y S2 => W (f x y S2) fun z S3 => ∃ k, z = .bl k ∧ (k = false → P (.bl false) S3) ∧ (k = true → W (c ρ S3) fun u S4 => W (g y u S4) P)) : W (eChain f g a b c ρ S) P :=
  w_bind (h.mono fun _ _ q => w_bind (q.mono fun _ _ q => w_bind (q.mono fun z S3 ⟨k, e, p, q⟩ => by
    subst e
    cases k with
    | false => exact w_ret (p rfl)
    | true => exact w_bind (q rfl))))
/-! statements -/
def nxt (b : EvS) (Q : PS) : PS := fun f ρ S => match f with
  | .nx => WS (b ρ S) Q
  | f => Q f ρ S
theorem ws_next (h : Q .nx ρ S) : WS (sNext ρ S) Q := ⟨_, _, _, rfl, h⟩
theorem ws_brk (h : Q .bk ρ S) : WS (sBrk ρ S) Q := ⟨_, _, _, rfl, h⟩
theorem ws_cnt (h : Q .ct ρ S) : WS (sCnt ρ S) Q := ⟨_, _, _, rfl, h⟩
theorem ws_seq {a b : EvS} (h : WS (a ρ S) (nxt b Q)) : WS (sSeq a b ρ S) Q := by
  obtain ⟨f, ρ1, S1, e, p⟩ := h
  unfold sSeq
  rw [e]
  cases f with
  | nx => exact p
  | bk => exact ⟨_, _, _, rfl, p⟩
  | ct => exact ⟨_, _, _, rfl, p⟩
  | rt d => exact ⟨_, _, _, rfl, p⟩
  | rf ds => exact ⟨_, _, _, rfl, p⟩
theorem ws_if {t : EvT} {a b : EvS} (h : W (t ρ S) fun c S1 => (c = true → WS (a ρ S1) Q) ∧ (c = false → WS (b ρ S1) Q)) : WS (sIf t a b ρ S) Q :=
  ws_bind (h.mono fun x S1 ⟨p, q⟩ => by
    cases x with
    | true => exact p rfl
    | false => exact q rfl)
theorem ws_do {e : Ev} (h : W (e ρ S) fun _ S1 => Q .nx ρ S1) : WS (sDo e ρ S) Q := ws_bind (h.mono fun _ _ q => ⟨_, _, _, rfl, q⟩)
theorem ws_ret {e : Ev} (h : W (e ρ S) fun d S1 => Q (.rt d) ρ S1) : WS (sRet e ρ S) Q := ws_bind (h.mono fun _ _ q => ⟨_, _, _, rfl, q⟩)
theorem ws_retN (h : Q (.rt .non) ρ S) : WS (sRetN ρ S) Q := ⟨_, _, _, rfl, h⟩
theorem ws_retF {e : EvL} (h : W (e ρ S) fun d S1 => Q (.rf d) ρ S1) : WS (sRetF e ρ S) Q := ws_bind (h.mono fun _ _ q => ⟨_, _, _, rfl, q⟩)
theorem ws_retA {i : Nat} {ds : List D} (e : ρ[i]? = some (.acc ds)) (h : Q (.rf ds) ρ S) : WS (sRetA i ρ S) Q := by
  refine ⟨_, _, _, ?_, h⟩
  unfold sRetA
  rw [e]
/-- into a name -/
theorem ws_set {e : Ev} {i : Nat} (h : W (e ρ S) fun d S1 => i < ρ.length ∧ Q .nx (ρ.set i (.val d)) S1) : WS (sAsg e (gNm i) ρ S) Q := ws_bind (h.mono fun d S1 ⟨l, q⟩ => by
  refine ⟨.nx, ρ.set i (.val d), S1, ?_, q⟩
  show ((gNm i d ρ S1).bind _) = _
  unfold gNm
  rw [if_pos l]
  rfl)
theorem ws_asg {e : Ev} {g : EvG} (h : W (e ρ S) fun d S1 => W ((g d ρ S1)) fun ρ' S2 => Q .nx ρ' S2) : WS (sAsg e g ρ S) Q := ws_bind (h.mono fun d S1 q => ws_bind (q.mono fun _ _ p => ⟨_, _, _, rfl, p⟩))
theorem wg_nm {i : Nat} {d : D} {P : Rho → Sto → Prop} (l : i < ρ.length) (h : P (ρ.set i (.val d)) S) : W (gNm i d ρ S) P := by
  refine ⟨_, _, ?_, h⟩
  unfold gNm
  rw [if_pos l]
theorem ws_acc {e : EvL} {i : Nat} (h : W (e ρ S) fun d S1 => i < ρ.length ∧ Q .nx (ρ.set i (.acc d)) S1) : WS (sAcc i e ρ S) Q := ws_bind (h.mono fun d S1 ⟨l, q⟩ => by
  refine ⟨.nx, ρ.set i (.acc d), S1, ?_, q⟩
  show (if i < ρ.length then _ else _) = _
  rw [if_pos l])
theorem ws_frz {i : Nat} {ds : List D} {s : EvS} (e : ρ[i]? = some (.acc ds)) (h : WS (s (ρ.set i (.val (.lst ds))) S) Q) : WS (sFrz i s ρ S) Q := by
  have z : frz i ρ = ρ.set i (.val (.lst ds)) := by
    unfold frz
    rw [e]
  show WS (s (frz i ρ) S) Q
  rw [z]
  exact h
theorem ws_frz0 {i : Nat} {d : D} {s : EvS} (e : ρ[i]? = some (.val d)) (h : WS (s ρ S) Q) : WS (sFrz i s ρ S) Q := by
  have z : frz i ρ = ρ := by
    unfold frz
    rw [e]
  show WS (s (frz i ρ) S) Q
  rw [z]
  exact h
theorem ws_app {e : Ev} {i : Nat} {ds : List D} (q : ρ[i]? = some (.acc ds)) (h : W (e ρ S) fun d S1 => ds.length < 16777216 ∧ Q .nx (ρ.set i (.acc (ds ++ [d]))) S1) : WS (sApp i e ρ S) Q := ws_bind (h.mono fun d S1 ⟨l, k⟩ => by
  refine ⟨.nx, ρ.set i (.acc (ds ++ [d])), S1, ?_, k⟩
  dsimp only
  rw [q]
  exact if_pos (by rw [sizeLine_eq]; exact l))
theorem ws_extend {e : EvL} {i : Nat} {ds : List D} (q : ρ[i]? = some (.acc ds)) (h : W (e ρ S) fun d S1 => ds.length + d.length ≤ 16777216 ∧ Q .nx (ρ.set i (.acc (ds ++ d))) S1) : WS (sExtend i e ρ S) Q := ws_bind (h.mono fun d S1 ⟨l, k⟩ => by
  refine ⟨.nx, ρ.set i (.acc (ds ++ d)), S1, ?_, k⟩
  dsimp only
  rw [q]
  exact if_pos (by rw [sizeLine_eq]; exact l))
theorem ws_par {i j : Nat} {a b : Ev} (h : W (a ρ S) fun x S1 => W (b ρ S1) fun y S2 => (i < ρ.length ∧ j < ρ.length) ∧ Q .nx ((ρ.set i (.val x)).set j (.val y)) S2) : WS (sPar i j a b ρ S) Q := ws_bind (h.mono fun x S1 q => ws_bind (q.mono fun y S2 ⟨l, k⟩ => ⟨.nx, _, S2, if_pos l, k⟩))
theorem ws_for {it : EvL} {g : EvG} {b : EvS} (h : W (it ρ S) fun ds S1 => WS (forL g b ds ρ S1) Q) : WS (sFor it g b ρ S) Q := ws_bind h
/-- behind a body: on, or out -/
def lp (I : Rho → Sto → Prop) (Q : PS) : PS := fun f ρ S => match f with
  | .nx => I ρ S
  | .ct => I ρ S
  | .bk => Q .nx ρ S
  | f => Q f ρ S
theorem forL_from {g : EvG} {b : EvS} {all : List D} (I : Nat → Rho → Sto → Prop) (step : ∀ k d ρ S, all[k]? = some d → I k ρ S → W (g d ρ S) fun ρ1 S1 => WS (b ρ1 S1) (lp (I (k + 1)) Q)) (fin : ∀ ρ S, I all.length ρ S → Q .nx ρ S) :
    ∀ (ds : List D) (k : Nat) ρ S, all.drop k = ds → k ≤ all.length → I k ρ S → WS (forL g b ds ρ S) Q
  | [], k, ρ, S, e, hk, i => by
    have l : all.length ≤ k := List.drop_eq_nil_iff.mp e
    have e2 : k = all.length := by omega
    subst e2
    exact ⟨_, _, _, rfl, fin ρ S i⟩
  | d :: ds, k, ρ, S, e, hk, i => by
    have hd : all[k]? = some d := by
      have z := congrArg (·[0]?) e
      simpa using z
    have lt : k < all.length := (List.getElem?_eq_some_iff.mp hd).1
    have e2 : all.drop (k + 1) = ds := by
      rw [← List.tail_drop, e]
      rfl
    obtain ⟨ρ1, S1, e1, f, ρ2, S2, e3, p⟩ := step k d ρ S hd i
    unfold forL
    rw [e1]
    dsimp only
    rw [e3]
    cases f with
    | nx => exact forL_from I step fin ds (k + 1) ρ2 S2 e2 lt p
    | ct => exact forL_from I step fin ds (k + 1) ρ2 S2 e2 lt p
    | bk => exact ⟨_, _, _, rfl, p⟩
    | rt d => exact ⟨_, _, _, rfl, p⟩
    | rf ds => exact ⟨_, _, _, rfl, p⟩
theorem ws_loop {g : EvG} {b : EvS} {all : List D} (I : Nat → Rho → Sto → Prop) (i0 : I 0 ρ S) (step : ∀ k d ρ S, all[k]? = some d → I k ρ S → W (g d ρ S) fun ρ1 S1 => WS (b ρ1 S1) (lp (I (k + 1)) Q)) (fin : ∀ ρ S, I all.length ρ S → Q .nx ρ S) : WS (forL g b all ρ S) Q :=
  forL_from I step fin all 0 ρ S rfl (Nat.zero_le _) i0
theorem ws_while {N : Nat} {t : EvT} {b : EvS} (I : Nat → Rho → Sto → Prop) : ∀ (n m : Nat) ρ S, m < n → I m ρ S → (∀ m ρ S, I m ρ S → W (t ρ S) fun c S1 => (c = true → WS (b ρ S1) (lp (fun ρ S => ∃ k, k < m ∧ I k ρ S) Q)) ∧ (c = false → Q .nx ρ S1)) → WS (whileN t b n ρ S) Q
  | 0, _, _, _, l, _, _ => by omega
  | n + 1, m, ρ, S, l, i, step => by
    obtain ⟨c, S1, e, h1, h2⟩ := step m ρ S i
    unfold whileN
    rw [e]
    cases c with
    | false => exact ⟨_, _, _, rfl, h2 rfl⟩
    | true =>
      obtain ⟨f, ρ2, S2, e2, p⟩ := h1 rfl
      dsimp only
      rw [e2]
      cases f with
      | nx =>
        obtain ⟨k, lk, p⟩ := p
        exact ws_while (N := N) I n k ρ2 S2 (by omega) p step
      | ct =>
        obtain ⟨k, lk, p⟩ := p
        exact ws_while (N := N) I n k ρ2 S2 (by omega) p step
      | bk => exact ⟨_, _, _, rfl, p⟩
      | rt d => exact ⟨_, _, _, rfl, p⟩
      | rf ds => exact ⟨_, _, _, rfl, p⟩
theorem ws_whl {n : Nat} {t : EvT} {b : EvS} (m : Nat) (I : Nat → Rho → Sto → Prop) (l : m < n) (i : I m ρ S) (step : ∀ m ρ S, I m ρ S → W (t ρ S) fun c S1 => (c = true → WS (b ρ S1) (lp (fun ρ S => ∃ k, k < m ∧ I k ρ S) Q)) ∧ (c = false → Q .nx ρ S1)) : WS (sWhile n t b ρ S) Q :=
  ws_while (N := 0) I n m ρ S l i step
/-! what is walked -/
theorem wi_L {a : Ev} {P : List D → Sto → Prop} (h : W (a ρ S) fun x S1 => (∃ ds, x = .lst ds ∧ P ds S1) ∨ ∃ ns : List Int, x = .scr ns ∧ P (ns.map D.int) S1) : W (iL a ρ S) P := w_bind (h.mono fun x S1 q => by
  rcases q with ⟨ds, e, p⟩ | ⟨ds, e, p⟩
  · subst e
    exact w_ret p
  · subst e
    exact w_ret p)
theorem wi_T {a : Ev} {P : List D → Sto → Prop} (h : W (a ρ S) fun x S1 => (∃ ds, x = .tup ds ∧ P ds S1)) : W (iT a ρ S) P := w_bind (h.mono fun x S1 q => by
  obtain ⟨ds, e, p⟩ := q
  subst e
  exact w_ret p)
theorem wi_S {a : Ev} {P : List D → Sto → Prop} (h : W (a ρ S) fun x S1 => (∃ ds, x = .str ds ∧ P (chars ds) S1)) : W (iS a ρ S) P := w_bind (h.mono fun x S1 q => by
  obtain ⟨ds, e, p⟩ := q
  subst e
  exact w_ret p)
theorem wi_R1 {a : EvL} {P : List D → Sto → Prop} (h : W (a ρ S) fun x S1 => ∃ j : Int, x = [.int j] ∧ (-1000000000 ≤ j ∧ j ≤ 1000000000) ∧ P (rng 0 j.toNat) S1) : W (iR1 a ρ S) P := w_bind (h.mono fun x S1 ⟨j, e, l, p⟩ => by
  subst e
  exact ⟨_, _, if_pos l, p⟩)
theorem wi_R2 {a : EvL} {P : List D → Sto → Prop} (h : W (a ρ S) fun x S1 => ∃ i j : Int, x = [.int i, .int j] ∧ (-1000000000 ≤ i ∧ i ≤ 1000000000 ∧ -1000000000 ≤ j ∧ j ≤ 1000000000) ∧ P (rng i (j - i).toNat) S1) : W (iR2 a ρ S) P := w_bind (h.mono fun x S1 ⟨i, j, e, l, p⟩ => by
  subst e
  exact ⟨_, _, if_pos l, p⟩)
theorem wi_R3 {a : EvL} {P : List D → Sto → Prop} (h : W (a ρ S) fun x S1 => ∃ i j c : Int, x = [.int i, .int j, .int c] ∧ (0 ≤ i ∧ i ≤ 1000000000 ∧ 0 ≤ j ∧ j ≤ 1000000000 ∧ 0 < c ∧ c ≤ 1000000) ∧ P (rng3 i c (rn3 i j c)) S1) : W (iR3 a ρ S) P := w_bind (h.mono fun x S1 ⟨i, j, c, e, l, p⟩ => by
  subst e
  exact ⟨_, _, if_pos l, p⟩)
theorem wi_E {a : EvL} {P : List D → Sto → Prop} (h : W (a ρ S) fun x S1 => ∃ ds, x = [.lst ds] ∧ P (enumD ds) S1) : W (iE a ρ S) P := w_bind (h.mono fun x S1 ⟨ds, e, p⟩ => by
  subst e
  exact w_ret p)
theorem rng_get {lo : Int} {n k : Nat} {d : D} (h : (rng lo n)[k]? = some d) : d = .int (lo + (k : Nat)) ∧ k < n := by
  unfold rng at h
  rw [List.getElem?_map] at h
  cases e : (List.range n)[k]? with
  | none => rw [e] at h; cases h
  | some j =>
    rw [e] at h
    cases h
    have l : k < n := by
      have z := (List.getElem?_eq_some_iff.mp e).1
      simpa using z
    rw [List.getElem?_range l] at e
    cases e
    exact ⟨rfl, l⟩
theorem rng_len {lo : Int} {n : Nat} : (rng lo n).length = n := by
  unfold rng
  simp
/-! comprehensions -/
theorem lcC_from {g : EvP} {t : EvT} {e : Ev} {all : List D} {P : List D → Sto → Prop} (I : Nat → List D → Sto → Prop) (step : ∀ k d out S, all[k]? = some d → I k out S → ∃ ρ1, g d ρ = some ρ1 ∧ W (t ρ1 S) fun c S1 => (c = false → I (k + 1) out S1) ∧ (c = true → W (e ρ1 S1) fun x S2 => I (k + 1) (out ++ [x]) S2)) :
    ∀ (ds : List D) (k : Nat) out S, all.drop k = ds → k ≤ all.length → I k out S → (∀ out S, I all.length out S → P out S) → W (lcC g t e ρ ds S) fun r S1 => P (out ++ r) S1
  | [], k, out, S, eq, hk, i, fin => by
    have l : all.length ≤ k := List.drop_eq_nil_iff.mp eq
    have e2 : k = all.length := by omega
    subst e2
    refine ⟨_, _, rfl, ?_⟩
    show P (out ++ []) S
    rw [List.append_nil]
    exact fin out S i
  | d :: ds, k, out, S, eq, hk, i, fin => by
    have hd : all[k]? = some d := by
      have z := congrArg (·[0]?) eq
      simpa using z
    have lt : k < all.length := (List.getElem?_eq_some_iff.mp hd).1
    have e2 : all.drop (k + 1) = ds := by
      rw [← List.tail_drop, eq]
      rfl
    obtain ⟨ρ1, e1, c, S1, e3, h1, h2⟩ := step k d out S hd i
    unfold lcC
    rw [e1]
    simp only [Option.bind_some]
    rw [e3]
    simp only [Option.bind_some]
    cases c with
    | false => exact lcC_from I step ds (k + 1) out S1 e2 lt (h1 rfl) fin
    | true =>
      obtain ⟨x, S2, e4, p⟩ := h2 rfl
      obtain ⟨r, S3, e5, q⟩ := lcC_from I step ds (k + 1) (out ++ [x]) S2 e2 lt p fin
      refine ⟨x :: r, S3, ?_, ?_⟩
      · simp only [if_true, e4, Option.bind_some, e5]
      · have z : out ++ x :: r = out ++ [x] ++ r := by simp
        show P (out ++ x :: r) S3
        rw [z]
        exact q
theorem wl_lc {it : EvL} {vs : List Nat} {g : EvP} {t : EvT} {e : Ev} {P : List D → Sto → Prop} (h : W (it ρ S) fun all S1 => ∃ I : Nat → List D → Sto → Prop, I 0 [] S1 ∧ (∀ k d out S, all[k]? = some d → I k out S → ∃ ρ1, g d (wipeR ρ vs) = some ρ1 ∧ W (t ρ1 S) fun c S1 => (c = false → I (k + 1) out S1) ∧ (c = true → W (e ρ1 S1) fun x S2 => I (k + 1) (out ++ [x]) S2)) ∧ ∀ out S, I all.length out S → out.length ≤ 16777216 ∧ P out S) : W (fLc it vs g t e ρ S) P :=
  w_bind (h.mono fun all S1 ⟨I, i0, step, fin⟩ => by
    obtain ⟨r, S2, e1, q⟩ := lcC_from (P := fun out S => out.length ≤ 16777216 ∧ P out S) I step all 0 [] S1 rfl (Nat.zero_le _) i0 fin
    refine ⟨r, S2, ?_, q.2⟩
    show ((lcC g t e (wipeR ρ vs) all S1).bind _) = _
    rw [e1]
    exact if_pos (by rw [sizeLine_eq]; exact q.1))
theorem wt_yes {P : Bool → Sto → Prop} (h : P true S) : W (tYesE ρ S) P := w_ret h
/-! calls -/
theorem we_call {F : Fn} {ds : List D} {P : D → Sto → Prop} (h : W (F ds S) fun o S1 => match o with | .v d => P d S1 | .f es => P (.lst es) S1) : W (callE F ds S) P := w_bind (h.mono fun o S1 q => by
  cases o with
  | v d => exact w_ret q
  | f es => exact w_ret q)
theorem we_callF {F : Fn} {ds : List D} {P : List D → Sto → Prop} (h : W (F ds S) fun o S1 => ∃ es, o = .f es ∧ P es S1) : W (callF F ds S) P := w_bind (h.mono fun o S1 ⟨es, e, q⟩ => by
  subst e
  exact w_ret q)
def endP (P : Out → Sto → Prop) : PS := fun f _ S => match f with
  | .nx => P (.v .non) S
  | .rt d => P (.v d) S
  | .rf ds => P (.f ds) S
  | _ => False
theorem w_run {n m : Nat} {b : EvS} {ds : List D} {P : Out → Sto → Prop} (hl : ds.length = n) (h : WS (b (rho0 m ds) S) (endP P)) : W (runB n m b ds S) P := by
  obtain ⟨f, ρ', S1, e, p⟩ := h
  unfold runB
  rw [if_pos hl, e]
  cases f with
  | nx => exact ⟨_, _, rfl, p⟩
  | rt d => exact ⟨_, _, rfl, p⟩
  | rf ds => exact ⟨_, _, rfl, p⟩
  | bk => exact absurd p id
  | ct => exact absurd p id
/-! operators at known operands -/
theorem wo_add {i j : Int} {P : D → Sto → Prop} (h : P (.int (i + j)) S) : W (fAdd (.int i) (.int j) S) P := w_ret h
theorem wo_addS {x y : List Nat} {P : D → Sto → Prop} (l : x.length + y.length ≤ 16777216) (h : P (.str (x ++ y)) S) : W (fAdd (.str x) (.str y) S) P := ⟨_, _, if_pos (by rw [sizeLine_eq]; exact l), h⟩
theorem wo_sub {i j : Int} {P : D → Sto → Prop} (h : P (.int (i - j)) S) : W (fSub (.int i) (.int j) S) P := w_ret h
theorem wo_neg {i : Int} {P : D → Sto → Prop} (h : P (.int (-i)) S) : W (fNeg (.int i) S) P := w_ret h
theorem wo_cmp {p : Int → Int → Bool} {i j : Int} {P : D → Sto → Prop} (h : P (.bl (p i j)) S) : W (fCmp p (.int i) (.int j) S) P := w_ret h
theorem wo_eqI {i j : Int} {P : D → Sto → Prop} (h : P (.bl (decide (i = j))) S) : W (fEq (.int i) (.int j) S) P := w_ret h
theorem wo_neI {i j : Int} {P : D → Sto → Prop} (h : P (.bl (!decide (i = j))) S) : W (fNe (.int i) (.int j) S) P := w_ret h
theorem wo_eqS {i j : List Nat} {P : D → Sto → Prop} (h : P (.bl (decide (i = j))) S) : W (fEq (.str i) (.str j) S) P := w_ret h
theorem wo_neS {i j : List Nat} {P : D → Sto → Prop} (h : P (.bl (!decide (i = j))) S) : W (fNe (.str i) (.str j) S) P := w_ret h
theorem wo_eqB {i j : Bool} {P : D → Sto → Prop} (h : P (.bl (decide (i = j))) S) : W (fEq (.bl i) (.bl j) S) P := w_ret h
theorem wo_neB {i j : Bool} {P : D → Sto → Prop} (h : P (.bl (!decide (i = j))) S) : W (fNe (.bl i) (.bl j) S) P := w_ret h
theorem wo_len {z : List Nat} {P : D → Sto → Prop} (l : z.length ≤ 16777216) (h : P (.int z.length) S) : W (fLen [.str z] S) P := ⟨_, _, if_pos (by rw [sizeLine_eq]; exact l), h⟩
theorem wo_lenL {ds : List D} {P : D → Sto → Prop} (h : P (.int ds.length) S) : W (fLen [.lst ds] S) P := w_ret h
theorem wo_lenT {ds : List D} {P : D → Sto → Prop} (h : P (.int ds.length) S) : W (fLen [.tup ds] S) P := w_ret h
theorem wo_lenC {ds : List Int} {P : D → Sto → Prop} (h : P (.int ds.length) S) : W (fLen [.scr ds] S) P := w_ret h
theorem wo_lenR {l : Nat} {ds : List D} {P : D → Sto → Prop} (g : S.get l = some (.lst ds)) (h : P (.int ds.length) S) : W (fLen [.ref l] S) P := by
  refine ⟨_, _, ?_, h⟩
  simp [fLen, seqOf, lstOf, g]
theorem wo_max {i j : Int} {P : D → Sto → Prop} (h : P (.int (if j > i then j else i)) S) : W (fMax2 [.int i, .int j] S) P := w_ret h
theorem wo_min {i j : Int} {P : D → Sto → Prop} (h : P (.int (if j < i then j else i)) S) : W (fMin2 [.int i, .int j] S) P := w_ret h
theorem wo_slS {z : List Nat} {lo hi : Option Int} {P : D → Sto → Prop} (l : z.length ≤ 16777216) (h : P (.str (cutL z lo hi)) S) : W (fSl (.str z) lo hi S) P := ⟨_, _, if_pos (by rw [sizeLine_eq]; exact l), h⟩
theorem wo_slL {ds : List D} {lo hi : Option Int} {P : List D → Sto → Prop} (h : P (cutL ds lo hi) S) : W (fSlL (.lst ds) lo hi S) P := w_ret h
theorem wo_cat {x y : List D} {P : List D → Sto → Prop} (l : x.length + y.length ≤ 16777216) (h : P (x ++ y) S) : W (fCat (.lst x) (.lst y) S) P := ⟨_, _, if_pos (by rw [sizeLine_eq]; exact l), h⟩
theorem wo_isT {d : D} {T n : String} {P : D → Sto → Prop} (o : okT T = true) (e : tyName S d = some n) (h : P (.bl (isT T n)) S) : W (fIsT [d, .raw (.ty T)] S) P := by
  refine ⟨_, _, ?_, h⟩
  simp [fIsT, o, e]
theorem atI_nat {α : Type} {xs : List α} {i : Int} {a : α} (h0 : 0 ≤ i) (h : xs[i.toNat]? = some a) : atI xs i = some a := by
  have lt := (List.getElem?_eq_some_iff.mp h).1
  have e : ixN xs.length i = some i.toNat := by
    unfold ixN
    rw [if_pos h0, if_pos (by omega)]
  unfold atI
  rw [e]
  exact h
theorem wo_ixL {ds : List D} {i : Int} {d : D} {P : D → Sto → Prop} (h0 : 0 ≤ i) (e : ds[i.toNat]? = some d) (h : P d S) : W (fIx (.lst ds) (.int i) S) P := by
  refine ⟨_, _, ?_, h⟩
  simp [fIx, seqOf, lstOf, atI_nat h0 e]
theorem wo_ixR {l : Nat} {ds : List D} {i : Int} {d : D} {P : D → Sto → Prop} (g : S.get l = some (.lst ds)) (h0 : 0 ≤ i) (e : ds[i.toNat]? = some d) (h : P d S) : W (fIx (.ref l) (.int i) S) P := by
  refine ⟨_, _, ?_, h⟩
  simp [fIx, seqOf, lstOf, g, atI_nat h0 e]
theorem wo_ixT {ds : List D} {i : Int} {d : D} {P : D → Sto → Prop} (h0 : 0 ≤ i) (e : ds[i.toNat]? = some d) (h : P d S) : W (fIx (.tup ds) (.int i) S) P := by
  refine ⟨_, _, ?_, h⟩
  simp [fIx, seqOf, atI_nat h0 e]
theorem wo_ixS {z : List Nat} {i : Int} {c : Nat} {P : D → Sto → Prop} (l : z.length ≤ 16777216) (h0 : 0 ≤ i) (e : z[i.toNat]? = some c) (h : P (.str [c]) S) : W (fIx (.str z) (.int i) S) P := by
  refine ⟨_, _, ?_, h⟩
  simp [fIx, atI_nat h0 e, sizeLine_eq, l]
theorem wo_mul {i j : Int} {P : D → Sto → Prop} (l : (-(2 ^ 64) < i ∧ i < 2 ^ 64) ∨ (-(2 ^ 64) < j ∧ j < 2 ^ 64)) (h : P (.int (i * j)) S) : W (fMul (.int i) (.int j) S) P := ⟨_, _, if_pos (by unfold mulOk; exact decide_eq_true l), h⟩
theorem wo_mulS {x : List Nat} {n : Int} {P : D → Sto → Prop} (l : -1000000 ≤ n ∧ n ≤ 1000000 ∧ x.length * n.toNat ≤ 1000000) (h : P (.str (List.replicate n.toNat x).flatten) S) : W (fMul (.str x) (.int n) S) P := ⟨_, _, if_pos l, h⟩
theorem wo_div {i j : Int} {P : D → Sto → Prop} (l : 0 < j ∧ j < 1073741824) (h : P (.int (i / j)) S) : W (fDiv (.int i) (.int j) S) P := ⟨_, _, if_pos l, h⟩
theorem wo_mod {i j : Int} {P : D → Sto → Prop} (l : 0 < j) (h : P (.int (i % j)) S) : W (fMod (.int i) (.int j) S) P := ⟨_, _, if_pos l, h⟩
theorem wo_pow {i j : Int} {P : D → Sto → Prop} (l : 0 ≤ j ∧ j ≤ 1000 ∧ -1000 ≤ i ∧ i ≤ 1000) (h : P (.int (i ^ j.toNat)) S) : W (fPow (.int i) (.int j) S) P := ⟨_, _, if_pos l, h⟩
theorem wo_addT {x y : List D} {P : D → Sto → Prop} (l : x.isEmpty = false ∧ x.length + y.length ≤ 16777216) (h : P (.tup (x ++ y)) S) : W (fAdd (.tup x) (.tup y) S) P := ⟨_, _, if_pos (by rw [sizeLine_eq]; exact l), h⟩
theorem wo_catO {a b : D} {x y : List D} {P : List D → Sto → Prop} (ha : lstOf S a = some x) (hb : lstOf S b = some y) (l : x.length + y.length ≤ 16777216) (h : P (x ++ y) S) : W (fCat a b S) P := by
  refine ⟨_, _, ?_, h⟩
  unfold fCat
  rw [ha, hb]
  exact if_pos (by rw [sizeLine_eq]; exact l)
theorem wo_listC {ns : List Int} {P : List D → Sto → Prop} (h : P (ns.map D.int) S) : W (fListOf [.scr ns] S) P := w_ret h
theorem wo_listL {ds : List D} {P : List D → Sto → Prop} (h : P ds S) : W (fListOf [.lst ds] S) P := w_ret h
theorem wo_listT {ds : List D} {P : List D → Sto → Prop} (h : P ds S) : W (fListOf [.tup ds] S) P := w_ret h
theorem wo_listR {l : Nat} {ds : List D} {P : List D → Sto → Prop} (g : S.get l = some (.lst ds)) (h : P ds S) : W (fListOf [.ref l] S) P := by
  refine ⟨_, _, ?_, h⟩
  simp [fListOf, seqOf, lstOf, g]
theorem wo_slR {l : Nat} {ds : List D} {lo hi : Option Int} {P : List D → Sto → Prop} (g : S.get l = some (.lst ds)) (h : P (cutL ds lo hi) S) : W (fSlL (.ref l) lo hi S) P := by
  refine ⟨_, _, ?_, h⟩
  simp [fSlL, lstOf, g]
theorem wo_tupT {ds : List D} {P : D → Sto → Prop} (h : P (.tup ds) S) : W (fTupOf [.tup ds] S) P := w_ret h
theorem wo_tupL {ds : List D} {P : D → Sto → Prop} (h : P (.tup ds) S) : W (fTupOf [.lst ds] S) P := w_ret h
theorem wo_tupR {l : Nat} {ds : List D} {P : D → Sto → Prop} (g : S.get l = some (.lst ds)) (h : P (.tup ds) S) : W (fTupOf [.ref l] S) P := by
  refine ⟨_, _, ?_, h⟩
  simp [fTupOf, lstOf, g]
theorem wo_intI {i : Int} {P : D → Sto → Prop} (h : P (.int i) S) : W (fInt [.int i] S) P := w_ret h
theorem wo_intB {b : Bool} {P : D → Sto → Prop} (h : P (.int (if b then 1 else 0)) S) : W (fInt [.bl b] S) P := w_ret h
theorem wo_strI {n : Int} {P : D → Sto → Prop} (l : 0 ≤ n ∧ n < 10 ^ 30) (h : P (.str (numL n.toNat)) S) : W (fStr [.int n] S) P := ⟨_, _, if_pos l, h⟩
theorem wo_strS {z : List Nat} {P : D → Sto → Prop} (h : P (.str z) S) : W (fStr [.str z] S) P := w_ret h
theorem wo_inS {c : Nat} {z : List Nat} {P : D → Sto → Prop} (h : P (.bl (decide (c ∈ z))) S) : W (fInS (.str [c]) (.str z) S) P := w_ret h
theorem wo_ninS {c : Nat} {z : List Nat} {P : D → Sto → Prop} (h : P (.bl (!decide (c ∈ z))) S) : W (fNotInS (.str [c]) (.str z) S) P := w_ret h
/-- a list of the store: an item stored, and the methods -/
theorem wg_sb {eo ei : Ev} {d : D} {P : Rho → Sto → Prop} (h : W (eo ρ S) fun x S1 => W (ei ρ S1) fun y S2 => ∃ l i ds, x = .ref l ∧ y = .int i ∧ S2.get l = some (.lst ds) ∧ (0 ≤ i ∧ i < ds.length) ∧ P ρ (S2.set l (.lst (ds.set i.toNat d)))) : W (gSb eo ei d ρ S) P := w_bind (h.mono fun x S1 q => w_bind (q.mono fun y S2 ⟨l, i, ds, e1, e2, g, r, p⟩ => by
  subst e1
  subst e2
  refine ⟨_, _, ?_, p⟩
  have e : ixN ds.length i = some i.toNat := by
    unfold ixN
    rw [if_pos r.1, if_pos r.2]
  simp only [g, e, Option.bind_some]))
theorem we_bm {f : D → List D → Sto → Option (D × Sto)} {eo : Ev} {el : EvL} {P : D → Sto → Prop} (h : W (eo ρ S) fun x S1 => ∃ l ds, x = .ref l ∧ S1.get l = some (.lst ds) ∧ W (el ρ S1) fun y S2 => W (f (.ref l) y S2) P) : W (eBM f eo el ρ S) P := w_bind (h.mono fun x S1 ⟨l, ds, e, g, q⟩ => by
  subst e
  dsimp only
  rw [g]
  exact w_bind q)
theorem wo_popAt {l : Nat} {i : Int} {ds : List D} {d : D} {P : D → Sto → Prop} (g : S.get l = some (.lst ds)) (h0 : 0 ≤ i) (e : ds[i.toNat]? = some d) (lz : ds.length ≤ 16777216) (h : P d (S.set l (.lst (ds.eraseIdx i.toNat)))) : W (fPopAt (.ref l) [.int i] S) P := by
  refine ⟨_, _, ?_, h⟩
  simp [fPopAt, g, h0, e, sizeLine_eq, lz]
theorem wo_append {l : Nat} {ds : List D} {d : D} {P : D → Sto → Prop} (g : S.get l = some (.lst ds)) (lz : ds.length < 16777216) (h : P .non (S.set l (.lst (ds ++ [d])))) : W (fAppend (.ref l) [d] S) P := by
  refine ⟨_, _, ?_, h⟩
  simp [fAppend, g, sizeLine_eq, lz]
theorem wo_clear {l : Nat} {ds : List D} {P : D → Sto → Prop} (g : S.get l = some (.lst ds)) (h : P .non (S.set l (.lst []))) : W (fClear (.ref l) [] S) P := by
  refine ⟨_, _, ?_, h⟩
  simp [fClear, g]
theorem nxt_nx {b : EvS} (h : WS (b ρ S) Q) : nxt b Q .nx ρ S := h
theorem nxt_rt {b : EvS} {d : D} (h : Q (.rt d) ρ S) : nxt b Q (.rt d) ρ S := h
theorem nxt_rf {b : EvS} {d : List D} (h : Q (.rf d) ρ S) : nxt b Q (.rf d) ρ S := h
theorem nxt_bk {b : EvS} (h : Q .bk ρ S) : nxt b Q .bk ρ S := h
theorem nxt_ct {b : EvS} (h : Q .ct ρ S) : nxt b Q .ct ρ S := h
theorem lp_nx {I : Rho → Sto → Prop} (h : I ρ S) : lp I Q .nx ρ S := h
theorem lp_ct {I : Rho → Sto → Prop} (h : I ρ S) : lp I Q .ct ρ S := h
theorem lp_bk {I : Rho → Sto → Prop} (h : Q .nx ρ S) : lp I Q .bk ρ S := h
theorem lp_rt {I : Rho → Sto → Prop} {d : D} (h : Q (.rt d) ρ S) : lp I Q (.rt d) ρ S := h
theorem lp_rf {I : Rho → Sto → Prop} {d : List D} (h : Q (.rf d) ρ S) : lp I Q (.rf d) ρ S := h
theorem end_nx {P : Out → Sto → Prop} (h : P (.v .non) S) : endP P .nx ρ S := h
theorem end_rt {P : Out → Sto → Prop} {d : D} (h : P (.v d) S) : endP P (.rt d) ρ S := h
theorem end_rf {P : Out → Sto → Prop} {d : List D} (h : P (.f d) S) : endP P (.rf d) ρ S := h
theorem we_m1 {f : D → List D → Sto → Option (α × Sto)} {eo ea : Ev} (h : W (eo ρ S) fun x S1 => ∃ c, x = .str c ∧ W (ea ρ S1) fun y S2 => W (f (.str c) [y] S2) P) : W (eM1 f eo ea ρ S) P := w_bind (h.mono fun x S1 ⟨c, e, q⟩ => by
  subst e
  exact w_bind q)
theorem we_rev {a : Ev} {P : D → Sto → Prop} (h : W (a ρ S) fun x S1 => W (fRev x S1) P) : W (eRev a ρ S) P := we_1 h
theorem wo_rev {z : List Nat} {P : D → Sto → Prop} (l : z.length ≤ 16777216) (h : P (.str z.reverse) S) : W (fRev (.str z) S) P := ⟨_, _, if_pos (by rw [sizeLine_eq]; exact l), h⟩
end
end AH

set_option maxRecDepth 100000
set_option maxHeartbeats 2000000
/-! what the laws' own helpers do -/
namespace AH
open PySem L2 TL
/-- the drawn numbers' box: a list of the numbers left, and the stirred number -/
structure Box (S : Sto) (l m : Nat) : Prop where
  ne : m < l
  out : ∃ q : Int, S.get l = some (.lst [.ref m, .int q])
  inn : ∃ xs : List Int, S.get m = some (.lst (xs.map .int)) ∧ xs.length ≤ 63
  lt : l < S.next
/-- only the box changes -/
structure Bx (l m : Nat) (S S' : Sto) : Prop where
  box : Box S' l m
  nx : S'.next = S.next
  fr : ∀ k, k ≠ l → k ≠ m → S'.get k = S.get k
theorem Bx.refl {l m : Nat} {S : Sto} (b : Box S l m) : Bx l m S S := ⟨b, rfl, fun _ _ _ => rfl⟩
theorem Bx.trans {l m : Nat} {S T U : Sto} (a : Bx l m S T) (b : Bx l m T U) : Bx l m S U := ⟨b.box, b.nx.trans a.nx, fun k h1 h2 => (b.fr k h1 h2).trans (a.fr k h1 h2)⟩
theorem Bx.setL {l m : Nat} {S : Sto} (b : Box S l m) (q : Int) : Bx l m S (S.set l (.lst [.ref m, .int q])) := by
  have h := b.ne
  refine ⟨⟨b.ne, ⟨q, if_pos rfl⟩, ?_, b.lt⟩, rfl, fun k h1 h2 => if_neg h1⟩
  obtain ⟨xs, e, z⟩ := b.inn
  exact ⟨xs, (if_neg (by omega)).trans e, z⟩
theorem Bx.setM {l m : Nat} {S : Sto} (b : Box S l m) {xs : List Int} (z : xs.length ≤ 63) : Bx l m S (S.set m (.lst (xs.map .int))) := by
  have h := b.ne
  refine ⟨⟨b.ne, ?_, ⟨xs, if_pos rfl, z⟩, b.lt⟩, rfl, fun k h1 h2 => if_neg h2⟩
  obtain ⟨q, e⟩ := b.out
  exact ⟨q, (if_neg (by omega)).trans e⟩
theorem toPys_ints : ∀ xs : List Int, toPys (xs.map D.int) = some (xs.map PyData.int)
  | [] => rfl
  | x :: xs => by
    show (match toPy (.int x), toPys (xs.map D.int) with
      | some p, some ps => some (p :: ps)
      | _, _ => none) = _
    rw [toPys_ints xs]
    rfl
theorem lay_ints : ∀ xs : List Int, PyData.canLayAll0 (xs.map PyData.int) = true ∧ PyData.depthAll (xs.map PyData.int) = 0
  | [] => ⟨rfl, rfl⟩
  | x :: xs => by
    obtain ⟨h1, h2⟩ := lay_ints xs
    refine ⟨?_, ?_⟩
    · show (PyData.canLay0 (.int x) && PyData.canLayAll0 (xs.map PyData.int)) = true
      rw [h1]
      rfl
    · show max (PyData.depth (.int x)) (PyData.depthAll (xs.map PyData.int)) = 0
      rw [h2]
      rfl
theorem shaped_ints (xs : List Int) : SeqAt.shaped (.list (xs.map PyData.int)) = true := by
  obtain ⟨h1, h2⟩ := lay_ints xs
  show (PyData.canLayAll0 (xs.map PyData.int) && decide (PyData.depthAll (xs.map PyData.int) + 1 ≤ 64)) = true
  rw [h1, h2]
  rfl
theorem eqv_nil : ∀ xs : List Int, PyData.eqvAll (xs.map PyData.int) [] = xs.isEmpty
  | [] => rfl
  | _ :: _ => rfl
theorem wo_eqNil {S : Sto} {m : Nat} {xs : List Int} {P : D → Sto → Prop} (g : S.get m = some (.lst (xs.map .int))) (h : P (.bl xs.isEmpty) S) : W (fEq (.ref m) (.lst []) S) P := by
  refine ⟨_, _, ?_, h⟩
  have e : eqD S (.ref m) (.lst []) = some xs.isEmpty := by
    show (match toPyS S (.ref m), toPyS S (.lst []) with
      | some p, some q => eqPy p q
      | _, _ => none) = _
    have e1 : toPyS S (.ref m) = some (.list (xs.map PyData.int)) := by
      show (match S.get m with
        | some (.lst ds) => (toPys ds).map PyData.list
        | _ => none) = _
      rw [g]
      dsimp only
      rw [toPys_ints]
      rfl
    have e2 : toPyS S (.lst []) = some (.list []) := rfl
    rw [e1, e2]
    dsimp only
    unfold eqPy
    rw [if_pos ⟨shaped_ints xs, shaped_ints []⟩]
    show some (PyData.eqvAll (xs.map PyData.int) []) = _
    rw [eqv_nil]
  unfold fEq
  rw [e]
  rfl
def bTake : EvS := (sSeq (sIf (tOf (e2 fEq (e2 fIx (eVar 0) (eC (.int 0))) (eV (fLst aNil)))) (sSeq (sAsg (e2 fMod (e2 fMul (e2 fIx (eVar 0) (eC (.int 1))) (eC (.int 48271))) (eC (.int 2147483647))) (gSb (eVar 0) (eC (.int 1))))
  (sRet (e2 fMod (e2 fDiv (e2 fIx (eVar 0) (eC (.int 1))) (eC (.int 7))) (eVar 1)))) sNext)
  (sSeq (sAsg (e2 fIx (e2 fIx (eVar 0) (eC (.int 0))) (eC (.int 0))) (gNm 2))
  (sSeq (sAsg (e2 fDiv (eVar 2) (eVar 1)) (gSb (e2 fIx (eVar 0) (eC (.int 0))) (eC (.int 0))))
  (sSeq (sIf (tOrE (tOf (e2 fEq (e2 fIx (e2 fIx (eVar 0) (eC (.int 0))) (eC (.int 0))) (eC (.int 0)))) (tOf (e2 fEq (e2 fIx (e2 fIx (eVar 0) (eC (.int 0))) (eC (.int 0))) (e1 fNeg (eC (.int 1)))))) (sDo (eBM fPopAt (e2 fIx (eVar 0) (eC (.int 0))) (aCons (eC (.int 0)) aNil))) sNext)
  (sRet (e2 fMod (eVar 2) (eVar 1)))))))
def F_take : Fn := runB 2 3 bTake
theorem take_ok {S : Sto} {l m : Nat} {n : Int} (b : Box S l m) (h0 : 0 < n) (h1 : n < 1073741824) : W (F_take [.ref l, .int n] S) fun o S' => ∃ r : Int, o = .v (.int r) ∧ (0 ≤ r ∧ r < n) ∧ Bx l m S S' := by
  refine w_run rfl ?_
  obtain ⟨q, eq⟩ := b.out
  obtain ⟨xs, ex, lx⟩ := b.inn
  show WS (bTake [.val (.ref l), .val (.int n), .no] S) _
  unfold bTake
  repeat (first | with_reducible (first | refine ws_seq ?_ | refine nxt_nx ?_ | refine lp_nx ?_ | refine lp_ct ?_ | refine lp_bk ?_ | refine lp_rt ?_ | refine lp_rf ?_ | refine nxt_rt ?_ | refine nxt_rf ?_ | refine nxt_bk ?_ | refine nxt_ct ?_ | refine end_nx ?_ | refine end_rt ?_ | refine end_rf ?_ | refine ws_next ?_ | refine ws_brk ?_ | refine ws_cnt ?_ | refine ws_do ?_ | refine ws_ret ?_ | refine ws_retF ?_ | refine ws_retN ?_ | refine ws_set ?_ | refine ws_acc ?_ | refine ws_par ?_ | refine ws_asg ?_ | refine ws_for ?_ | refine ws_if ?_ | refine we_2 ?_ | refine we_1 ?_ | refine we_n ?_ | refine we_3 ?_ | refine we_c ?_ | refine wo_none ?_ | refine wo_some ?_ | refine wl_cons ?_ | refine wl_nil ?_ | refine we_V ?_ | refine we_own ?_ | refine we_tup ?_ | refine wl_lst ?_ | refine wt_of ?_ | refine wt_or ?_ | refine wt_and ?_ | refine wt_not ?_ | refine we_and ?_ | refine we_or ?_ | refine we_not ?_ | refine we_if ?_ | refine we_isN ?_ | refine we_notN ?_ | refine we_chain ?_ | refine wt_yes ?_ | refine wi_L ?_ | refine wi_T ?_ | refine wi_S ?_ | refine wi_R1 ?_ | refine wi_R2 ?_ | refine wi_R3 ?_ | refine wi_E ?_ | refine we_call ?_ | refine we_callF ?_ | refine we_bm ?_ | refine wg_sb ?_ | refine we_m1 ?_ | refine we_rev ?_ | refine wo_add ?_ | refine wo_sub ?_ | refine wo_neg ?_ | refine wo_cmp ?_ | refine wo_eqI ?_ | refine wo_neI ?_ | refine wo_eqS ?_ | refine wo_neS ?_ | refine wo_eqB ?_ | refine wo_neB ?_ | refine wo_lenL ?_ | refine wo_lenT ?_ | refine wo_lenC ?_ | refine wo_max ?_ | refine wo_min ?_ | refine wo_slL ?_ | refine wo_listC ?_ | refine wo_listL ?_ | refine wo_listT ?_ | refine wo_tupT ?_ | refine wo_tupL ?_ | refine wo_intI ?_ | refine wo_intB ?_ | refine wo_strS ?_ | refine wo_inS ?_ | refine wo_ninS ?_) | ((with_reducible apply we_var); rfl) | ((with_reducible apply ws_frz); rfl) | ((with_reducible apply ws_app); rfl) | ((with_reducible apply ws_extend); rfl) | ((with_reducible apply ws_retA); rfl) | ((with_reducible apply ws_frz0); rfl) | ((with_reducible apply wo_isT); rfl; rfl) | (refine ⟨Nat.le_of_ble_eq_true rfl, ?_⟩) | (with_reducible refine ⟨_, rfl, ?_⟩) | (with_reducible refine wg_nm (Nat.le_of_ble_eq_true rfl) ?_) | (refine ⟨⟨Nat.le_of_ble_eq_true rfl, Nat.le_of_ble_eq_true rfl⟩, ?_⟩) | (with_reducible refine Or.inl ⟨_, rfl, ?_⟩) | (with_reducible refine Or.inr ⟨_, rfl, ?_⟩))
  refine wo_ixR eq (by decide) rfl ?_
  repeat (first | with_reducible (first | refine ws_seq ?_ | refine nxt_nx ?_ | refine lp_nx ?_ | refine lp_ct ?_ | refine lp_bk ?_ | refine lp_rt ?_ | refine lp_rf ?_ | refine nxt_rt ?_ | refine nxt_rf ?_ | refine nxt_bk ?_ | refine nxt_ct ?_ | refine end_nx ?_ | refine end_rt ?_ | refine end_rf ?_ | refine ws_next ?_ | refine ws_brk ?_ | refine ws_cnt ?_ | refine ws_do ?_ | refine ws_ret ?_ | refine ws_retF ?_ | refine ws_retN ?_ | refine ws_set ?_ | refine ws_acc ?_ | refine ws_par ?_ | refine ws_asg ?_ | refine ws_for ?_ | refine ws_if ?_ | refine we_2 ?_ | refine we_1 ?_ | refine we_n ?_ | refine we_3 ?_ | refine we_c ?_ | refine wo_none ?_ | refine wo_some ?_ | refine wl_cons ?_ | refine wl_nil ?_ | refine we_V ?_ | refine we_own ?_ | refine we_tup ?_ | refine wl_lst ?_ | refine wt_of ?_ | refine wt_or ?_ | refine wt_and ?_ | refine wt_not ?_ | refine we_and ?_ | refine we_or ?_ | refine we_not ?_ | refine we_if ?_ | refine we_isN ?_ | refine we_notN ?_ | refine we_chain ?_ | refine wt_yes ?_ | refine wi_L ?_ | refine wi_T ?_ | refine wi_S ?_ | refine wi_R1 ?_ | refine wi_R2 ?_ | refine wi_R3 ?_ | refine wi_E ?_ | refine we_call ?_ | refine we_callF ?_ | refine we_bm ?_ | refine wg_sb ?_ | refine we_m1 ?_ | refine we_rev ?_ | refine wo_add ?_ | refine wo_sub ?_ | refine wo_neg ?_ | refine wo_cmp ?_ | refine wo_eqI ?_ | refine wo_neI ?_ | refine wo_eqS ?_ | refine wo_neS ?_ | refine wo_eqB ?_ | refine wo_neB ?_ | refine wo_lenL ?_ | refine wo_lenT ?_ | refine wo_lenC ?_ | refine wo_max ?_ | refine wo_min ?_ | refine wo_slL ?_ | refine wo_listC ?_ | refine wo_listL ?_ | refine wo_listT ?_ | refine wo_tupT ?_ | refine wo_tupL ?_ | refine wo_intI ?_ | refine wo_intB ?_ | refine wo_strS ?_ | refine wo_inS ?_ | refine wo_ninS ?_) | ((with_reducible apply we_var); rfl) | ((with_reducible apply ws_frz); rfl) | ((with_reducible apply ws_app); rfl) | ((with_reducible apply ws_extend); rfl) | ((with_reducible apply ws_retA); rfl) | ((with_reducible apply ws_frz0); rfl) | ((with_reducible apply wo_isT); rfl; rfl) | (refine ⟨Nat.le_of_ble_eq_true rfl, ?_⟩) | (with_reducible refine ⟨_, rfl, ?_⟩) | (with_reducible refine wg_nm (Nat.le_of_ble_eq_true rfl) ?_) | (refine ⟨⟨Nat.le_of_ble_eq_true rfl, Nat.le_of_ble_eq_true rfl⟩, ?_⟩) | (with_reducible refine Or.inl ⟨_, rfl, ?_⟩) | (with_reducible refine Or.inr ⟨_, rfl, ?_⟩))
  refine wo_eqNil ex ?_
  repeat (first | with_reducible (first | refine ws_seq ?_ | refine nxt_nx ?_ | refine lp_nx ?_ | refine lp_ct ?_ | refine lp_bk ?_ | refine lp_rt ?_ | refine lp_rf ?_ | refine nxt_rt ?_ | refine nxt_rf ?_ | refine nxt_bk ?_ | refine nxt_ct ?_ | refine end_nx ?_ | refine end_rt ?_ | refine end_rf ?_ | refine ws_next ?_ | refine ws_brk ?_ | refine ws_cnt ?_ | refine ws_do ?_ | refine ws_ret ?_ | refine ws_retF ?_ | refine ws_retN ?_ | refine ws_set ?_ | refine ws_acc ?_ | refine ws_par ?_ | refine ws_asg ?_ | refine ws_for ?_ | refine ws_if ?_ | refine we_2 ?_ | refine we_1 ?_ | refine we_n ?_ | refine we_3 ?_ | refine we_c ?_ | refine wo_none ?_ | refine wo_some ?_ | refine wl_cons ?_ | refine wl_nil ?_ | refine we_V ?_ | refine we_own ?_ | refine we_tup ?_ | refine wl_lst ?_ | refine wt_of ?_ | refine wt_or ?_ | refine wt_and ?_ | refine wt_not ?_ | refine we_and ?_ | refine we_or ?_ | refine we_not ?_ | refine we_if ?_ | refine we_isN ?_ | refine we_notN ?_ | refine we_chain ?_ | refine wt_yes ?_ | refine wi_L ?_ | refine wi_T ?_ | refine wi_S ?_ | refine wi_R1 ?_ | refine wi_R2 ?_ | refine wi_R3 ?_ | refine wi_E ?_ | refine we_call ?_ | refine we_callF ?_ | refine we_bm ?_ | refine wg_sb ?_ | refine we_m1 ?_ | refine we_rev ?_ | refine wo_add ?_ | refine wo_sub ?_ | refine wo_neg ?_ | refine wo_cmp ?_ | refine wo_eqI ?_ | refine wo_neI ?_ | refine wo_eqS ?_ | refine wo_neS ?_ | refine wo_eqB ?_ | refine wo_neB ?_ | refine wo_lenL ?_ | refine wo_lenT ?_ | refine wo_lenC ?_ | refine wo_max ?_ | refine wo_min ?_ | refine wo_slL ?_ | refine wo_listC ?_ | refine wo_listL ?_ | refine wo_listT ?_ | refine wo_tupT ?_ | refine wo_tupL ?_ | refine wo_intI ?_ | refine wo_intB ?_ | refine wo_strS ?_ | refine wo_inS ?_ | refine wo_ninS ?_) | ((with_reducible apply we_var); rfl) | ((with_reducible apply ws_frz); rfl) | ((with_reducible apply ws_app); rfl) | ((with_reducible apply ws_extend); rfl) | ((with_reducible apply ws_retA); rfl) | ((with_reducible apply ws_frz0); rfl) | ((with_reducible apply wo_isT); rfl; rfl) | (refine ⟨Nat.le_of_ble_eq_true rfl, ?_⟩) | (with_reducible refine ⟨_, rfl, ?_⟩) | (with_reducible refine wg_nm (Nat.le_of_ble_eq_true rfl) ?_) | (refine ⟨⟨Nat.le_of_ble_eq_true rfl, Nat.le_of_ble_eq_true rfl⟩, ?_⟩) | (with_reducible refine Or.inl ⟨_, rfl, ?_⟩) | (with_reducible refine Or.inr ⟨_, rfl, ?_⟩))
  refine ⟨fun hc => ?_, fun hc => ?_⟩
  · repeat (first | with_reducible (first | refine ws_seq ?_ | refine nxt_nx ?_ | refine lp_nx ?_ | refine lp_ct ?_ | refine lp_bk ?_ | refine lp_rt ?_ | refine lp_rf ?_ | refine nxt_rt ?_ | refine nxt_rf ?_ | refine nxt_bk ?_ | refine nxt_ct ?_ | refine end_nx ?_ | refine end_rt ?_ | refine end_rf ?_ | refine ws_next ?_ | refine ws_brk ?_ | refine ws_cnt ?_ | refine ws_do ?_ | refine ws_ret ?_ | refine ws_retF ?_ | refine ws_retN ?_ | refine ws_set ?_ | refine ws_acc ?_ | refine ws_par ?_ | refine ws_asg ?_ | refine ws_for ?_ | refine ws_if ?_ | refine we_2 ?_ | refine we_1 ?_ | refine we_n ?_ | refine we_3 ?_ | refine we_c ?_ | refine wo_none ?_ | refine wo_some ?_ | refine wl_cons ?_ | refine wl_nil ?_ | refine we_V ?_ | refine we_own ?_ | refine we_tup ?_ | refine wl_lst ?_ | refine wt_of ?_ | refine wt_or ?_ | refine wt_and ?_ | refine wt_not ?_ | refine we_and ?_ | refine we_or ?_ | refine we_not ?_ | refine we_if ?_ | refine we_isN ?_ | refine we_notN ?_ | refine we_chain ?_ | refine wt_yes ?_ | refine wi_L ?_ | refine wi_T ?_ | refine wi_S ?_ | refine wi_R1 ?_ | refine wi_R2 ?_ | refine wi_R3 ?_ | refine wi_E ?_ | refine we_call ?_ | refine we_callF ?_ | refine we_bm ?_ | refine wg_sb ?_ | refine we_m1 ?_ | refine we_rev ?_ | refine wo_add ?_ | refine wo_sub ?_ | refine wo_neg ?_ | refine wo_cmp ?_ | refine wo_eqI ?_ | refine wo_neI ?_ | refine wo_eqS ?_ | refine wo_neS ?_ | refine wo_eqB ?_ | refine wo_neB ?_ | refine wo_lenL ?_ | refine wo_lenT ?_ | refine wo_lenC ?_ | refine wo_max ?_ | refine wo_min ?_ | refine wo_slL ?_ | refine wo_listC ?_ | refine wo_listL ?_ | refine wo_listT ?_ | refine wo_tupT ?_ | refine wo_tupL ?_ | refine wo_intI ?_ | refine wo_intB ?_ | refine wo_strS ?_ | refine wo_inS ?_ | refine wo_ninS ?_) | ((with_reducible apply we_var); rfl) | ((with_reducible apply ws_frz); rfl) | ((with_reducible apply ws_app); rfl) | ((with_reducible apply ws_extend); rfl) | ((with_reducible apply ws_retA); rfl) | ((with_reducible apply ws_frz0); rfl) | ((with_reducible apply wo_isT); rfl; rfl) | (refine ⟨Nat.le_of_ble_eq_true rfl, ?_⟩) | (with_reducible refine ⟨_, rfl, ?_⟩) | (with_reducible refine wg_nm (Nat.le_of_ble_eq_true rfl) ?_) | (refine ⟨⟨Nat.le_of_ble_eq_true rfl, Nat.le_of_ble_eq_true rfl⟩, ?_⟩) | (with_reducible refine Or.inl ⟨_, rfl, ?_⟩) | (with_reducible refine Or.inr ⟨_, rfl, ?_⟩))
    refine wo_ixR eq (by decide) rfl ?_
    repeat (first | with_reducible (first | refine ws_seq ?_ | refine nxt_nx ?_ | refine lp_nx ?_ | refine lp_ct ?_ | refine lp_bk ?_ | refine lp_rt ?_ | refine lp_rf ?_ | refine nxt_rt ?_ | refine nxt_rf ?_ | refine nxt_bk ?_ | refine nxt_ct ?_ | refine end_nx ?_ | refine end_rt ?_ | refine end_rf ?_ | refine ws_next ?_ | refine ws_brk ?_ | refine ws_cnt ?_ | refine ws_do ?_ | refine ws_ret ?_ | refine ws_retF ?_ | refine ws_retN ?_ | refine ws_set ?_ | refine ws_acc ?_ | refine ws_par ?_ | refine ws_asg ?_ | refine ws_for ?_ | refine ws_if ?_ | refine we_2 ?_ | refine we_1 ?_ | refine we_n ?_ | refine we_3 ?_ | refine we_c ?_ | refine wo_none ?_ | refine wo_some ?_ | refine wl_cons ?_ | refine wl_nil ?_ | refine we_V ?_ | refine we_own ?_ | refine we_tup ?_ | refine wl_lst ?_ | refine wt_of ?_ | refine wt_or ?_ | refine wt_and ?_ | refine wt_not ?_ | refine we_and ?_ | refine we_or ?_ | refine we_not ?_ | refine we_if ?_ | refine we_isN ?_ | refine we_notN ?_ | refine we_chain ?_ | refine wt_yes ?_ | refine wi_L ?_ | refine wi_T ?_ | refine wi_S ?_ | refine wi_R1 ?_ | refine wi_R2 ?_ | refine wi_R3 ?_ | refine wi_E ?_ | refine we_call ?_ | refine we_callF ?_ | refine we_bm ?_ | refine wg_sb ?_ | refine we_m1 ?_ | refine we_rev ?_ | refine wo_add ?_ | refine wo_sub ?_ | refine wo_neg ?_ | refine wo_cmp ?_ | refine wo_eqI ?_ | refine wo_neI ?_ | refine wo_eqS ?_ | refine wo_neS ?_ | refine wo_eqB ?_ | refine wo_neB ?_ | refine wo_lenL ?_ | refine wo_lenT ?_ | refine wo_lenC ?_ | refine wo_max ?_ | refine wo_min ?_ | refine wo_slL ?_ | refine wo_listC ?_ | refine wo_listL ?_ | refine wo_listT ?_ | refine wo_tupT ?_ | refine wo_tupL ?_ | refine wo_intI ?_ | refine wo_intB ?_ | refine wo_strS ?_ | refine wo_inS ?_ | refine wo_ninS ?_) | ((with_reducible apply we_var); rfl) | ((with_reducible apply ws_frz); rfl) | ((with_reducible apply ws_app); rfl) | ((with_reducible apply ws_extend); rfl) | ((with_reducible apply ws_retA); rfl) | ((with_reducible apply ws_frz0); rfl) | ((with_reducible apply wo_isT); rfl; rfl) | (refine ⟨Nat.le_of_ble_eq_true rfl, ?_⟩) | (with_reducible refine ⟨_, rfl, ?_⟩) | (with_reducible refine wg_nm (Nat.le_of_ble_eq_true rfl) ?_) | (refine ⟨⟨Nat.le_of_ble_eq_true rfl, Nat.le_of_ble_eq_true rfl⟩, ?_⟩) | (with_reducible refine Or.inl ⟨_, rfl, ?_⟩) | (with_reducible refine Or.inr ⟨_, rfl, ?_⟩))
    refine wo_mul (Or.inr (by decide)) ?_
    repeat (first | with_reducible (first | refine ws_seq ?_ | refine nxt_nx ?_ | refine lp_nx ?_ | refine lp_ct ?_ | refine lp_bk ?_ | refine lp_rt ?_ | refine lp_rf ?_ | refine nxt_rt ?_ | refine nxt_rf ?_ | refine nxt_bk ?_ | refine nxt_ct ?_ | refine end_nx ?_ | refine end_rt ?_ | refine end_rf ?_ | refine ws_next ?_ | refine ws_brk ?_ | refine ws_cnt ?_ | refine ws_do ?_ | refine ws_ret ?_ | refine ws_retF ?_ | refine ws_retN ?_ | refine ws_set ?_ | refine ws_acc ?_ | refine ws_par ?_ | refine ws_asg ?_ | refine ws_for ?_ | refine ws_if ?_ | refine we_2 ?_ | refine we_1 ?_ | refine we_n ?_ | refine we_3 ?_ | refine we_c ?_ | refine wo_none ?_ | refine wo_some ?_ | refine wl_cons ?_ | refine wl_nil ?_ | refine we_V ?_ | refine we_own ?_ | refine we_tup ?_ | refine wl_lst ?_ | refine wt_of ?_ | refine wt_or ?_ | refine wt_and ?_ | refine wt_not ?_ | refine we_and ?_ | refine we_or ?_ | refine we_not ?_ | refine we_if ?_ | refine we_isN ?_ | refine we_notN ?_ | refine we_chain ?_ | refine wt_yes ?_ | refine wi_L ?_ | refine wi_T ?_ | refine wi_S ?_ | refine wi_R1 ?_ | refine wi_R2 ?_ | refine wi_R3 ?_ | refine wi_E ?_ | refine we_call ?_ | refine we_callF ?_ | refine we_bm ?_ | refine wg_sb ?_ | refine we_m1 ?_ | refine we_rev ?_ | refine wo_add ?_ | refine wo_sub ?_ | refine wo_neg ?_ | refine wo_cmp ?_ | refine wo_eqI ?_ | refine wo_neI ?_ | refine wo_eqS ?_ | refine wo_neS ?_ | refine wo_eqB ?_ | refine wo_neB ?_ | refine wo_lenL ?_ | refine wo_lenT ?_ | refine wo_lenC ?_ | refine wo_max ?_ | refine wo_min ?_ | refine wo_slL ?_ | refine wo_listC ?_ | refine wo_listL ?_ | refine wo_listT ?_ | refine wo_tupT ?_ | refine wo_tupL ?_ | refine wo_intI ?_ | refine wo_intB ?_ | refine wo_strS ?_ | refine wo_inS ?_ | refine wo_ninS ?_) | ((with_reducible apply we_var); rfl) | ((with_reducible apply ws_frz); rfl) | ((with_reducible apply ws_app); rfl) | ((with_reducible apply ws_extend); rfl) | ((with_reducible apply ws_retA); rfl) | ((with_reducible apply ws_frz0); rfl) | ((with_reducible apply wo_isT); rfl; rfl) | (refine ⟨Nat.le_of_ble_eq_true rfl, ?_⟩) | (with_reducible refine ⟨_, rfl, ?_⟩) | (with_reducible refine wg_nm (Nat.le_of_ble_eq_true rfl) ?_) | (refine ⟨⟨Nat.le_of_ble_eq_true rfl, Nat.le_of_ble_eq_true rfl⟩, ?_⟩) | (with_reducible refine Or.inl ⟨_, rfl, ?_⟩) | (with_reducible refine Or.inr ⟨_, rfl, ?_⟩))
    refine wo_mod (by decide) ?_
    repeat (first | with_reducible (first | refine ws_seq ?_ | refine nxt_nx ?_ | refine lp_nx ?_ | refine lp_ct ?_ | refine lp_bk ?_ | refine lp_rt ?_ | refine lp_rf ?_ | refine nxt_rt ?_ | refine nxt_rf ?_ | refine nxt_bk ?_ | refine nxt_ct ?_ | refine end_nx ?_ | refine end_rt ?_ | refine end_rf ?_ | refine ws_next ?_ | refine ws_brk ?_ | refine ws_cnt ?_ | refine ws_do ?_ | refine ws_ret ?_ | refine ws_retF ?_ | refine ws_retN ?_ | refine ws_set ?_ | refine ws_acc ?_ | refine ws_par ?_ | refine ws_asg ?_ | refine ws_for ?_ | refine ws_if ?_ | refine we_2 ?_ | refine we_1 ?_ | refine we_n ?_ | refine we_3 ?_ | refine we_c ?_ | refine wo_none ?_ | refine wo_some ?_ | refine wl_cons ?_ | refine wl_nil ?_ | refine we_V ?_ | refine we_own ?_ | refine we_tup ?_ | refine wl_lst ?_ | refine wt_of ?_ | refine wt_or ?_ | refine wt_and ?_ | refine wt_not ?_ | refine we_and ?_ | refine we_or ?_ | refine we_not ?_ | refine we_if ?_ | refine we_isN ?_ | refine we_notN ?_ | refine we_chain ?_ | refine wt_yes ?_ | refine wi_L ?_ | refine wi_T ?_ | refine wi_S ?_ | refine wi_R1 ?_ | refine wi_R2 ?_ | refine wi_R3 ?_ | refine wi_E ?_ | refine we_call ?_ | refine we_callF ?_ | refine we_bm ?_ | refine wg_sb ?_ | refine we_m1 ?_ | refine we_rev ?_ | refine wo_add ?_ | refine wo_sub ?_ | refine wo_neg ?_ | refine wo_cmp ?_ | refine wo_eqI ?_ | refine wo_neI ?_ | refine wo_eqS ?_ | refine wo_neS ?_ | refine wo_eqB ?_ | refine wo_neB ?_ | refine wo_lenL ?_ | refine wo_lenT ?_ | refine wo_lenC ?_ | refine wo_max ?_ | refine wo_min ?_ | refine wo_slL ?_ | refine wo_listC ?_ | refine wo_listL ?_ | refine wo_listT ?_ | refine wo_tupT ?_ | refine wo_tupL ?_ | refine wo_intI ?_ | refine wo_intB ?_ | refine wo_strS ?_ | refine wo_inS ?_ | refine wo_ninS ?_) | ((with_reducible apply we_var); rfl) | ((with_reducible apply ws_frz); rfl) | ((with_reducible apply ws_app); rfl) | ((with_reducible apply ws_extend); rfl) | ((with_reducible apply ws_retA); rfl) | ((with_reducible apply ws_frz0); rfl) | ((with_reducible apply wo_isT); rfl; rfl) | (refine ⟨Nat.le_of_ble_eq_true rfl, ?_⟩) | (with_reducible refine ⟨_, rfl, ?_⟩) | (with_reducible refine wg_nm (Nat.le_of_ble_eq_true rfl) ?_) | (refine ⟨⟨Nat.le_of_ble_eq_true rfl, Nat.le_of_ble_eq_true rfl⟩, ?_⟩) | (with_reducible refine Or.inl ⟨_, rfl, ?_⟩) | (with_reducible refine Or.inr ⟨_, rfl, ?_⟩))
    refine ⟨_, _, _, rfl, rfl, eq, by simp, ?_⟩
    repeat (first | with_reducible (first | refine ws_seq ?_ | refine nxt_nx ?_ | refine lp_nx ?_ | refine lp_ct ?_ | refine lp_bk ?_ | refine lp_rt ?_ | refine lp_rf ?_ | refine nxt_rt ?_ | refine nxt_rf ?_ | refine nxt_bk ?_ | refine nxt_ct ?_ | refine end_nx ?_ | refine end_rt ?_ | refine end_rf ?_ | refine ws_next ?_ | refine ws_brk ?_ | refine ws_cnt ?_ | refine ws_do ?_ | refine ws_ret ?_ | refine ws_retF ?_ | refine ws_retN ?_ | refine ws_set ?_ | refine ws_acc ?_ | refine ws_par ?_ | refine ws_asg ?_ | refine ws_for ?_ | refine ws_if ?_ | refine we_2 ?_ | refine we_1 ?_ | refine we_n ?_ | refine we_3 ?_ | refine we_c ?_ | refine wo_none ?_ | refine wo_some ?_ | refine wl_cons ?_ | refine wl_nil ?_ | refine we_V ?_ | refine we_own ?_ | refine we_tup ?_ | refine wl_lst ?_ | refine wt_of ?_ | refine wt_or ?_ | refine wt_and ?_ | refine wt_not ?_ | refine we_and ?_ | refine we_or ?_ | refine we_not ?_ | refine we_if ?_ | refine we_isN ?_ | refine we_notN ?_ | refine we_chain ?_ | refine wt_yes ?_ | refine wi_L ?_ | refine wi_T ?_ | refine wi_S ?_ | refine wi_R1 ?_ | refine wi_R2 ?_ | refine wi_R3 ?_ | refine wi_E ?_ | refine we_call ?_ | refine we_callF ?_ | refine we_bm ?_ | refine wg_sb ?_ | refine we_m1 ?_ | refine we_rev ?_ | refine wo_add ?_ | refine wo_sub ?_ | refine wo_neg ?_ | refine wo_cmp ?_ | refine wo_eqI ?_ | refine wo_neI ?_ | refine wo_eqS ?_ | refine wo_neS ?_ | refine wo_eqB ?_ | refine wo_neB ?_ | refine wo_lenL ?_ | refine wo_lenT ?_ | refine wo_lenC ?_ | refine wo_max ?_ | refine wo_min ?_ | refine wo_slL ?_ | refine wo_listC ?_ | refine wo_listL ?_ | refine wo_listT ?_ | refine wo_tupT ?_ | refine wo_tupL ?_ | refine wo_intI ?_ | refine wo_intB ?_ | refine wo_strS ?_ | refine wo_inS ?_ | refine wo_ninS ?_) | ((with_reducible apply we_var); rfl) | ((with_reducible apply ws_frz); rfl) | ((with_reducible apply ws_app); rfl) | ((with_reducible apply ws_extend); rfl) | ((with_reducible apply ws_retA); rfl) | ((with_reducible apply ws_frz0); rfl) | ((with_reducible apply wo_isT); rfl; rfl) | (refine ⟨Nat.le_of_ble_eq_true rfl, ?_⟩) | (with_reducible refine ⟨_, rfl, ?_⟩) | (with_reducible refine wg_nm (Nat.le_of_ble_eq_true rfl) ?_) | (refine ⟨⟨Nat.le_of_ble_eq_true rfl, Nat.le_of_ble_eq_true rfl⟩, ?_⟩) | (with_reducible refine Or.inl ⟨_, rfl, ?_⟩) | (with_reducible refine Or.inr ⟨_, rfl, ?_⟩))
    have bx := Bx.setL b (q * 48271 % 2147483647)
    refine wo_ixR (if_pos rfl) (by decide) rfl ?_
    repeat (first | with_reducible (first | refine ws_seq ?_ | refine nxt_nx ?_ | refine lp_nx ?_ | refine lp_ct ?_ | refine lp_bk ?_ | refine lp_rt ?_ | refine lp_rf ?_ | refine nxt_rt ?_ | refine nxt_rf ?_ | refine nxt_bk ?_ | refine nxt_ct ?_ | refine end_nx ?_ | refine end_rt ?_ | refine end_rf ?_ | refine ws_next ?_ | refine ws_brk ?_ | refine ws_cnt ?_ | refine ws_do ?_ | refine ws_ret ?_ | refine ws_retF ?_ | refine ws_retN ?_ | refine ws_set ?_ | refine ws_acc ?_ | refine ws_par ?_ | refine ws_asg ?_ | refine ws_for ?_ | refine ws_if ?_ | refine we_2 ?_ | refine we_1 ?_ | refine we_n ?_ | refine we_3 ?_ | refine we_c ?_ | refine wo_none ?_ | refine wo_some ?_ | refine wl_cons ?_ | refine wl_nil ?_ | refine we_V ?_ | refine we_own ?_ | refine we_tup ?_ | refine wl_lst ?_ | refine wt_of ?_ | refine wt_or ?_ | refine wt_and ?_ | refine wt_not ?_ | refine we_and ?_ | refine we_or ?_ | refine we_not ?_ | refine we_if ?_ | refine we_isN ?_ | refine we_notN ?_ | refine we_chain ?_ | refine wt_yes ?_ | refine wi_L ?_ | refine wi_T ?_ | refine wi_S ?_ | refine wi_R1 ?_ | refine wi_R2 ?_ | refine wi_R3 ?_ | refine wi_E ?_ | refine we_call ?_ | refine we_callF ?_ | refine we_bm ?_ | refine wg_sb ?_ | refine we_m1 ?_ | refine we_rev ?_ | refine wo_add ?_ | refine wo_sub ?_ | refine wo_neg ?_ | refine wo_cmp ?_ | refine wo_eqI ?_ | refine wo_neI ?_ | refine wo_eqS ?_ | refine wo_neS ?_ | refine wo_eqB ?_ | refine wo_neB ?_ | refine wo_lenL ?_ | refine wo_lenT ?_ | refine wo_lenC ?_ | refine wo_max ?_ | refine wo_min ?_ | refine wo_slL ?_ | refine wo_listC ?_ | refine wo_listL ?_ | refine wo_listT ?_ | refine wo_tupT ?_ | refine wo_tupL ?_ | refine wo_intI ?_ | refine wo_intB ?_ | refine wo_strS ?_ | refine wo_inS ?_ | refine wo_ninS ?_) | ((with_reducible apply we_var); rfl) | ((with_reducible apply ws_frz); rfl) | ((with_reducible apply ws_app); rfl) | ((with_reducible apply ws_extend); rfl) | ((with_reducible apply ws_retA); rfl) | ((with_reducible apply ws_frz0); rfl) | ((with_reducible apply wo_isT); rfl; rfl) | (refine ⟨Nat.le_of_ble_eq_true rfl, ?_⟩) | (with_reducible refine ⟨_, rfl, ?_⟩) | (with_reducible refine wg_nm (Nat.le_of_ble_eq_true rfl) ?_) | (refine ⟨⟨Nat.le_of_ble_eq_true rfl, Nat.le_of_ble_eq_true rfl⟩, ?_⟩) | (with_reducible refine Or.inl ⟨_, rfl, ?_⟩) | (with_reducible refine Or.inr ⟨_, rfl, ?_⟩))
    refine wo_div (by decide) ?_
    repeat (first | with_reducible (first | refine ws_seq ?_ | refine nxt_nx ?_ | refine lp_nx ?_ | refine lp_ct ?_ | refine lp_bk ?_ | refine lp_rt ?_ | refine lp_rf ?_ | refine nxt_rt ?_ | refine nxt_rf ?_ | refine nxt_bk ?_ | refine nxt_ct ?_ | refine end_nx ?_ | refine end_rt ?_ | refine end_rf ?_ | refine ws_next ?_ | refine ws_brk ?_ | refine ws_cnt ?_ | refine ws_do ?_ | refine ws_ret ?_ | refine ws_retF ?_ | refine ws_retN ?_ | refine ws_set ?_ | refine ws_acc ?_ | refine ws_par ?_ | refine ws_asg ?_ | refine ws_for ?_ | refine ws_if ?_ | refine we_2 ?_ | refine we_1 ?_ | refine we_n ?_ | refine we_3 ?_ | refine we_c ?_ | refine wo_none ?_ | refine wo_some ?_ | refine wl_cons ?_ | refine wl_nil ?_ | refine we_V ?_ | refine we_own ?_ | refine we_tup ?_ | refine wl_lst ?_ | refine wt_of ?_ | refine wt_or ?_ | refine wt_and ?_ | refine wt_not ?_ | refine we_and ?_ | refine we_or ?_ | refine we_not ?_ | refine we_if ?_ | refine we_isN ?_ | refine we_notN ?_ | refine we_chain ?_ | refine wt_yes ?_ | refine wi_L ?_ | refine wi_T ?_ | refine wi_S ?_ | refine wi_R1 ?_ | refine wi_R2 ?_ | refine wi_R3 ?_ | refine wi_E ?_ | refine we_call ?_ | refine we_callF ?_ | refine we_bm ?_ | refine wg_sb ?_ | refine we_m1 ?_ | refine we_rev ?_ | refine wo_add ?_ | refine wo_sub ?_ | refine wo_neg ?_ | refine wo_cmp ?_ | refine wo_eqI ?_ | refine wo_neI ?_ | refine wo_eqS ?_ | refine wo_neS ?_ | refine wo_eqB ?_ | refine wo_neB ?_ | refine wo_lenL ?_ | refine wo_lenT ?_ | refine wo_lenC ?_ | refine wo_max ?_ | refine wo_min ?_ | refine wo_slL ?_ | refine wo_listC ?_ | refine wo_listL ?_ | refine wo_listT ?_ | refine wo_tupT ?_ | refine wo_tupL ?_ | refine wo_intI ?_ | refine wo_intB ?_ | refine wo_strS ?_ | refine wo_inS ?_ | refine wo_ninS ?_) | ((with_reducible apply we_var); rfl) | ((with_reducible apply ws_frz); rfl) | ((with_reducible apply ws_app); rfl) | ((with_reducible apply ws_extend); rfl) | ((with_reducible apply ws_retA); rfl) | ((with_reducible apply ws_frz0); rfl) | ((with_reducible apply wo_isT); rfl; rfl) | (refine ⟨Nat.le_of_ble_eq_true rfl, ?_⟩) | (with_reducible refine ⟨_, rfl, ?_⟩) | (with_reducible refine wg_nm (Nat.le_of_ble_eq_true rfl) ?_) | (refine ⟨⟨Nat.le_of_ble_eq_true rfl, Nat.le_of_ble_eq_true rfl⟩, ?_⟩) | (with_reducible refine Or.inl ⟨_, rfl, ?_⟩) | (with_reducible refine Or.inr ⟨_, rfl, ?_⟩))
    refine wo_mod h0 ?_
    repeat (first | with_reducible (first | refine ws_seq ?_ | refine nxt_nx ?_ | refine lp_nx ?_ | refine lp_ct ?_ | refine lp_bk ?_ | refine lp_rt ?_ | refine lp_rf ?_ | refine nxt_rt ?_ | refine nxt_rf ?_ | refine nxt_bk ?_ | refine nxt_ct ?_ | refine end_nx ?_ | refine end_rt ?_ | refine end_rf ?_ | refine ws_next ?_ | refine ws_brk ?_ | refine ws_cnt ?_ | refine ws_do ?_ | refine ws_ret ?_ | refine ws_retF ?_ | refine ws_retN ?_ | refine ws_set ?_ | refine ws_acc ?_ | refine ws_par ?_ | refine ws_asg ?_ | refine ws_for ?_ | refine ws_if ?_ | refine we_2 ?_ | refine we_1 ?_ | refine we_n ?_ | refine we_3 ?_ | refine we_c ?_ | refine wo_none ?_ | refine wo_some ?_ | refine wl_cons ?_ | refine wl_nil ?_ | refine we_V ?_ | refine we_own ?_ | refine we_tup ?_ | refine wl_lst ?_ | refine wt_of ?_ | refine wt_or ?_ | refine wt_and ?_ | refine wt_not ?_ | refine we_and ?_ | refine we_or ?_ | refine we_not ?_ | refine we_if ?_ | refine we_isN ?_ | refine we_notN ?_ | refine we_chain ?_ | refine wt_yes ?_ | refine wi_L ?_ | refine wi_T ?_ | refine wi_S ?_ | refine wi_R1 ?_ | refine wi_R2 ?_ | refine wi_R3 ?_ | refine wi_E ?_ | refine we_call ?_ | refine we_callF ?_ | refine we_bm ?_ | refine wg_sb ?_ | refine we_m1 ?_ | refine we_rev ?_ | refine wo_add ?_ | refine wo_sub ?_ | refine wo_neg ?_ | refine wo_cmp ?_ | refine wo_eqI ?_ | refine wo_neI ?_ | refine wo_eqS ?_ | refine wo_neS ?_ | refine wo_eqB ?_ | refine wo_neB ?_ | refine wo_lenL ?_ | refine wo_lenT ?_ | refine wo_lenC ?_ | refine wo_max ?_ | refine wo_min ?_ | refine wo_slL ?_ | refine wo_listC ?_ | refine wo_listL ?_ | refine wo_listT ?_ | refine wo_tupT ?_ | refine wo_tupL ?_ | refine wo_intI ?_ | refine wo_intB ?_ | refine wo_strS ?_ | refine wo_inS ?_ | refine wo_ninS ?_) | ((with_reducible apply we_var); rfl) | ((with_reducible apply ws_frz); rfl) | ((with_reducible apply ws_app); rfl) | ((with_reducible apply ws_extend); rfl) | ((with_reducible apply ws_retA); rfl) | ((with_reducible apply ws_frz0); rfl) | ((with_reducible apply wo_isT); rfl; rfl) | (refine ⟨Nat.le_of_ble_eq_true rfl, ?_⟩) | (with_reducible refine ⟨_, rfl, ?_⟩) | (with_reducible refine wg_nm (Nat.le_of_ble_eq_true rfl) ?_) | (refine ⟨⟨Nat.le_of_ble_eq_true rfl, Nat.le_of_ble_eq_true rfl⟩, ?_⟩) | (with_reducible refine Or.inl ⟨_, rfl, ?_⟩) | (with_reducible refine Or.inr ⟨_, rfl, ?_⟩))
    exact ⟨⟨Int.emod_nonneg _ (by omega), Int.emod_lt_of_pos _ h0⟩, bx⟩
  · cases xs with
    | nil => cases hc
    | cons x xs =>
      repeat (first | with_reducible (first | refine ws_seq ?_ | refine nxt_nx ?_ | refine lp_nx ?_ | refine lp_ct ?_ | refine lp_bk ?_ | refine lp_rt ?_ | refine lp_rf ?_ | refine nxt_rt ?_ | refine nxt_rf ?_ | refine nxt_bk ?_ | refine nxt_ct ?_ | refine end_nx ?_ | refine end_rt ?_ | refine end_rf ?_ | refine ws_next ?_ | refine ws_brk ?_ | refine ws_cnt ?_ | refine ws_do ?_ | refine ws_ret ?_ | refine ws_retF ?_ | refine ws_retN ?_ | refine ws_set ?_ | refine ws_acc ?_ | refine ws_par ?_ | refine ws_asg ?_ | refine ws_for ?_ | refine ws_if ?_ | refine we_2 ?_ | refine we_1 ?_ | refine we_n ?_ | refine we_3 ?_ | refine we_c ?_ | refine wo_none ?_ | refine wo_some ?_ | refine wl_cons ?_ | refine wl_nil ?_ | refine we_V ?_ | refine we_own ?_ | refine we_tup ?_ | refine wl_lst ?_ | refine wt_of ?_ | refine wt_or ?_ | refine wt_and ?_ | refine wt_not ?_ | refine we_and ?_ | refine we_or ?_ | refine we_not ?_ | refine we_if ?_ | refine we_isN ?_ | refine we_notN ?_ | refine we_chain ?_ | refine wt_yes ?_ | refine wi_L ?_ | refine wi_T ?_ | refine wi_S ?_ | refine wi_R1 ?_ | refine wi_R2 ?_ | refine wi_R3 ?_ | refine wi_E ?_ | refine we_call ?_ | refine we_callF ?_ | refine we_bm ?_ | refine wg_sb ?_ | refine we_m1 ?_ | refine we_rev ?_ | refine wo_add ?_ | refine wo_sub ?_ | refine wo_neg ?_ | refine wo_cmp ?_ | refine wo_eqI ?_ | refine wo_neI ?_ | refine wo_eqS ?_ | refine wo_neS ?_ | refine wo_eqB ?_ | refine wo_neB ?_ | refine wo_lenL ?_ | refine wo_lenT ?_ | refine wo_lenC ?_ | refine wo_max ?_ | refine wo_min ?_ | refine wo_slL ?_ | refine wo_listC ?_ | refine wo_listL ?_ | refine wo_listT ?_ | refine wo_tupT ?_ | refine wo_tupL ?_ | refine wo_intI ?_ | refine wo_intB ?_ | refine wo_strS ?_ | refine wo_inS ?_ | refine wo_ninS ?_) | ((with_reducible apply we_var); rfl) | ((with_reducible apply ws_frz); rfl) | ((with_reducible apply ws_app); rfl) | ((with_reducible apply ws_extend); rfl) | ((with_reducible apply ws_retA); rfl) | ((with_reducible apply ws_frz0); rfl) | ((with_reducible apply wo_isT); rfl; rfl) | (refine ⟨Nat.le_of_ble_eq_true rfl, ?_⟩) | (with_reducible refine ⟨_, rfl, ?_⟩) | (with_reducible refine wg_nm (Nat.le_of_ble_eq_true rfl) ?_) | (refine ⟨⟨Nat.le_of_ble_eq_true rfl, Nat.le_of_ble_eq_true rfl⟩, ?_⟩) | (with_reducible refine Or.inl ⟨_, rfl, ?_⟩) | (with_reducible refine Or.inr ⟨_, rfl, ?_⟩))
      refine wo_ixR eq (by decide) rfl ?_
      repeat (first | with_reducible (first | refine ws_seq ?_ | refine nxt_nx ?_ | refine lp_nx ?_ | refine lp_ct ?_ | refine lp_bk ?_ | refine lp_rt ?_ | refine lp_rf ?_ | refine nxt_rt ?_ | refine nxt_rf ?_ | refine nxt_bk ?_ | refine nxt_ct ?_ | refine end_nx ?_ | refine end_rt ?_ | refine end_rf ?_ | refine ws_next ?_ | refine ws_brk ?_ | refine ws_cnt ?_ | refine ws_do ?_ | refine ws_ret ?_ | refine ws_retF ?_ | refine ws_retN ?_ | refine ws_set ?_ | refine ws_acc ?_ | refine ws_par ?_ | refine ws_asg ?_ | refine ws_for ?_ | refine ws_if ?_ | refine we_2 ?_ | refine we_1 ?_ | refine we_n ?_ | refine we_3 ?_ | refine we_c ?_ | refine wo_none ?_ | refine wo_some ?_ | refine wl_cons ?_ | refine wl_nil ?_ | refine we_V ?_ | refine we_own ?_ | refine we_tup ?_ | refine wl_lst ?_ | refine wt_of ?_ | refine wt_or ?_ | refine wt_and ?_ | refine wt_not ?_ | refine we_and ?_ | refine we_or ?_ | refine we_not ?_ | refine we_if ?_ | refine we_isN ?_ | refine we_notN ?_ | refine we_chain ?_ | refine wt_yes ?_ | refine wi_L ?_ | refine wi_T ?_ | refine wi_S ?_ | refine wi_R1 ?_ | refine wi_R2 ?_ | refine wi_R3 ?_ | refine wi_E ?_ | refine we_call ?_ | refine we_callF ?_ | refine we_bm ?_ | refine wg_sb ?_ | refine we_m1 ?_ | refine we_rev ?_ | refine wo_add ?_ | refine wo_sub ?_ | refine wo_neg ?_ | refine wo_cmp ?_ | refine wo_eqI ?_ | refine wo_neI ?_ | refine wo_eqS ?_ | refine wo_neS ?_ | refine wo_eqB ?_ | refine wo_neB ?_ | refine wo_lenL ?_ | refine wo_lenT ?_ | refine wo_lenC ?_ | refine wo_max ?_ | refine wo_min ?_ | refine wo_slL ?_ | refine wo_listC ?_ | refine wo_listL ?_ | refine wo_listT ?_ | refine wo_tupT ?_ | refine wo_tupL ?_ | refine wo_intI ?_ | refine wo_intB ?_ | refine wo_strS ?_ | refine wo_inS ?_ | refine wo_ninS ?_) | ((with_reducible apply we_var); rfl) | ((with_reducible apply ws_frz); rfl) | ((with_reducible apply ws_app); rfl) | ((with_reducible apply ws_extend); rfl) | ((with_reducible apply ws_retA); rfl) | ((with_reducible apply ws_frz0); rfl) | ((with_reducible apply wo_isT); rfl; rfl) | (refine ⟨Nat.le_of_ble_eq_true rfl, ?_⟩) | (with_reducible refine ⟨_, rfl, ?_⟩) | (with_reducible refine wg_nm (Nat.le_of_ble_eq_true rfl) ?_) | (refine ⟨⟨Nat.le_of_ble_eq_true rfl, Nat.le_of_ble_eq_true rfl⟩, ?_⟩) | (with_reducible refine Or.inl ⟨_, rfl, ?_⟩) | (with_reducible refine Or.inr ⟨_, rfl, ?_⟩))
      refine wo_ixR ex (by decide) rfl ?_
      repeat (first | with_reducible (first | refine ws_seq ?_ | refine nxt_nx ?_ | refine lp_nx ?_ | refine lp_ct ?_ | refine lp_bk ?_ | refine lp_rt ?_ | refine lp_rf ?_ | refine nxt_rt ?_ | refine nxt_rf ?_ | refine nxt_bk ?_ | refine nxt_ct ?_ | refine end_nx ?_ | refine end_rt ?_ | refine end_rf ?_ | refine ws_next ?_ | refine ws_brk ?_ | refine ws_cnt ?_ | refine ws_do ?_ | refine ws_ret ?_ | refine ws_retF ?_ | refine ws_retN ?_ | refine ws_set ?_ | refine ws_acc ?_ | refine ws_par ?_ | refine ws_asg ?_ | refine ws_for ?_ | refine ws_if ?_ | refine we_2 ?_ | refine we_1 ?_ | refine we_n ?_ | refine we_3 ?_ | refine we_c ?_ | refine wo_none ?_ | refine wo_some ?_ | refine wl_cons ?_ | refine wl_nil ?_ | refine we_V ?_ | refine we_own ?_ | refine we_tup ?_ | refine wl_lst ?_ | refine wt_of ?_ | refine wt_or ?_ | refine wt_and ?_ | refine wt_not ?_ | refine we_and ?_ | refine we_or ?_ | refine we_not ?_ | refine we_if ?_ | refine we_isN ?_ | refine we_notN ?_ | refine we_chain ?_ | refine wt_yes ?_ | refine wi_L ?_ | refine wi_T ?_ | refine wi_S ?_ | refine wi_R1 ?_ | refine wi_R2 ?_ | refine wi_R3 ?_ | refine wi_E ?_ | refine we_call ?_ | refine we_callF ?_ | refine we_bm ?_ | refine wg_sb ?_ | refine we_m1 ?_ | refine we_rev ?_ | refine wo_add ?_ | refine wo_sub ?_ | refine wo_neg ?_ | refine wo_cmp ?_ | refine wo_eqI ?_ | refine wo_neI ?_ | refine wo_eqS ?_ | refine wo_neS ?_ | refine wo_eqB ?_ | refine wo_neB ?_ | refine wo_lenL ?_ | refine wo_lenT ?_ | refine wo_lenC ?_ | refine wo_max ?_ | refine wo_min ?_ | refine wo_slL ?_ | refine wo_listC ?_ | refine wo_listL ?_ | refine wo_listT ?_ | refine wo_tupT ?_ | refine wo_tupL ?_ | refine wo_intI ?_ | refine wo_intB ?_ | refine wo_strS ?_ | refine wo_inS ?_ | refine wo_ninS ?_) | ((with_reducible apply we_var); rfl) | ((with_reducible apply ws_frz); rfl) | ((with_reducible apply ws_app); rfl) | ((with_reducible apply ws_extend); rfl) | ((with_reducible apply ws_retA); rfl) | ((with_reducible apply ws_frz0); rfl) | ((with_reducible apply wo_isT); rfl; rfl) | (refine ⟨Nat.le_of_ble_eq_true rfl, ?_⟩) | (with_reducible refine ⟨_, rfl, ?_⟩) | (with_reducible refine wg_nm (Nat.le_of_ble_eq_true rfl) ?_) | (refine ⟨⟨Nat.le_of_ble_eq_true rfl, Nat.le_of_ble_eq_true rfl⟩, ?_⟩) | (with_reducible refine Or.inl ⟨_, rfl, ?_⟩) | (with_reducible refine Or.inr ⟨_, rfl, ?_⟩))
      refine wo_div ⟨h0, h1⟩ ?_
      repeat (first | with_reducible (first | refine ws_seq ?_ | refine nxt_nx ?_ | refine lp_nx ?_ | refine lp_ct ?_ | refine lp_bk ?_ | refine lp_rt ?_ | refine lp_rf ?_ | refine nxt_rt ?_ | refine nxt_rf ?_ | refine nxt_bk ?_ | refine nxt_ct ?_ | refine end_nx ?_ | refine end_rt ?_ | refine end_rf ?_ | refine ws_next ?_ | refine ws_brk ?_ | refine ws_cnt ?_ | refine ws_do ?_ | refine ws_ret ?_ | refine ws_retF ?_ | refine ws_retN ?_ | refine ws_set ?_ | refine ws_acc ?_ | refine ws_par ?_ | refine ws_asg ?_ | refine ws_for ?_ | refine ws_if ?_ | refine we_2 ?_ | refine we_1 ?_ | refine we_n ?_ | refine we_3 ?_ | refine we_c ?_ | refine wo_none ?_ | refine wo_some ?_ | refine wl_cons ?_ | refine wl_nil ?_ | refine we_V ?_ | refine we_own ?_ | refine we_tup ?_ | refine wl_lst ?_ | refine wt_of ?_ | refine wt_or ?_ | refine wt_and ?_ | refine wt_not ?_ | refine we_and ?_ | refine we_or ?_ | refine we_not ?_ | refine we_if ?_ | refine we_isN ?_ | refine we_notN ?_ | refine we_chain ?_ | refine wt_yes ?_ | refine wi_L ?_ | refine wi_T ?_ | refine wi_S ?_ | refine wi_R1 ?_ | refine wi_R2 ?_ | refine wi_R3 ?_ | refine wi_E ?_ | refine we_call ?_ | refine we_callF ?_ | refine we_bm ?_ | refine wg_sb ?_ | refine we_m1 ?_ | refine we_rev ?_ | refine wo_add ?_ | refine wo_sub ?_ | refine wo_neg ?_ | refine wo_cmp ?_ | refine wo_eqI ?_ | refine wo_neI ?_ | refine wo_eqS ?_ | refine wo_neS ?_ | refine wo_eqB ?_ | refine wo_neB ?_ | refine wo_lenL ?_ | refine wo_lenT ?_ | refine wo_lenC ?_ | refine wo_max ?_ | refine wo_min ?_ | refine wo_slL ?_ | refine wo_listC ?_ | refine wo_listL ?_ | refine wo_listT ?_ | refine wo_tupT ?_ | refine wo_tupL ?_ | refine wo_intI ?_ | refine wo_intB ?_ | refine wo_strS ?_ | refine wo_inS ?_ | refine wo_ninS ?_) | ((with_reducible apply we_var); rfl) | ((with_reducible apply ws_frz); rfl) | ((with_reducible apply ws_app); rfl) | ((with_reducible apply ws_extend); rfl) | ((with_reducible apply ws_retA); rfl) | ((with_reducible apply ws_frz0); rfl) | ((with_reducible apply wo_isT); rfl; rfl) | (refine ⟨Nat.le_of_ble_eq_true rfl, ?_⟩) | (with_reducible refine ⟨_, rfl, ?_⟩) | (with_reducible refine wg_nm (Nat.le_of_ble_eq_true rfl) ?_) | (refine ⟨⟨Nat.le_of_ble_eq_true rfl, Nat.le_of_ble_eq_true rfl⟩, ?_⟩) | (with_reducible refine Or.inl ⟨_, rfl, ?_⟩) | (with_reducible refine Or.inr ⟨_, rfl, ?_⟩))
      refine wo_ixR eq (by decide) rfl ?_
      repeat (first | with_reducible (first | refine ws_seq ?_ | refine nxt_nx ?_ | refine lp_nx ?_ | refine lp_ct ?_ | refine lp_bk ?_ | refine lp_rt ?_ | refine lp_rf ?_ | refine nxt_rt ?_ | refine nxt_rf ?_ | refine nxt_bk ?_ | refine nxt_ct ?_ | refine end_nx ?_ | refine end_rt ?_ | refine end_rf ?_ | refine ws_next ?_ | refine ws_brk ?_ | refine ws_cnt ?_ | refine ws_do ?_ | refine ws_ret ?_ | refine ws_retF ?_ | refine ws_retN ?_ | refine ws_set ?_ | refine ws_acc ?_ | refine ws_par ?_ | refine ws_asg ?_ | refine ws_for ?_ | refine ws_if ?_ | refine we_2 ?_ | refine we_1 ?_ | refine we_n ?_ | refine we_3 ?_ | refine we_c ?_ | refine wo_none ?_ | refine wo_some ?_ | refine wl_cons ?_ | refine wl_nil ?_ | refine we_V ?_ | refine we_own ?_ | refine we_tup ?_ | refine wl_lst ?_ | refine wt_of ?_ | refine wt_or ?_ | refine wt_and ?_ | refine wt_not ?_ | refine we_and ?_ | refine we_or ?_ | refine we_not ?_ | refine we_if ?_ | refine we_isN ?_ | refine we_notN ?_ | refine we_chain ?_ | refine wt_yes ?_ | refine wi_L ?_ | refine wi_T ?_ | refine wi_S ?_ | refine wi_R1 ?_ | refine wi_R2 ?_ | refine wi_R3 ?_ | refine wi_E ?_ | refine we_call ?_ | refine we_callF ?_ | refine we_bm ?_ | refine wg_sb ?_ | refine we_m1 ?_ | refine we_rev ?_ | refine wo_add ?_ | refine wo_sub ?_ | refine wo_neg ?_ | refine wo_cmp ?_ | refine wo_eqI ?_ | refine wo_neI ?_ | refine wo_eqS ?_ | refine wo_neS ?_ | refine wo_eqB ?_ | refine wo_neB ?_ | refine wo_lenL ?_ | refine wo_lenT ?_ | refine wo_lenC ?_ | refine wo_max ?_ | refine wo_min ?_ | refine wo_slL ?_ | refine wo_listC ?_ | refine wo_listL ?_ | refine wo_listT ?_ | refine wo_tupT ?_ | refine wo_tupL ?_ | refine wo_intI ?_ | refine wo_intB ?_ | refine wo_strS ?_ | refine wo_inS ?_ | refine wo_ninS ?_) | ((with_reducible apply we_var); rfl) | ((with_reducible apply ws_frz); rfl) | ((with_reducible apply ws_app); rfl) | ((with_reducible apply ws_extend); rfl) | ((with_reducible apply ws_retA); rfl) | ((with_reducible apply ws_frz0); rfl) | ((with_reducible apply wo_isT); rfl; rfl) | (refine ⟨Nat.le_of_ble_eq_true rfl, ?_⟩) | (with_reducible refine ⟨_, rfl, ?_⟩) | (with_reducible refine wg_nm (Nat.le_of_ble_eq_true rfl) ?_) | (refine ⟨⟨Nat.le_of_ble_eq_true rfl, Nat.le_of_ble_eq_true rfl⟩, ?_⟩) | (with_reducible refine Or.inl ⟨_, rfl, ?_⟩) | (with_reducible refine Or.inr ⟨_, rfl, ?_⟩))
      refine ⟨_, _, _, rfl, rfl, ex, ⟨by decide, by simp⟩, ?_⟩
      have bx : Bx l m S (S.set m (.lst (((x / n) :: xs).map .int))) := Bx.setM b (by simpa using lx)
      have ex2 : (S.set m (.lst (((x / n) :: xs).map .int))).get m = some (.lst (((x / n) :: xs).map .int)) := if_pos rfl
      repeat (first | with_reducible (first | refine ws_seq ?_ | refine nxt_nx ?_ | refine lp_nx ?_ | refine lp_ct ?_ | refine lp_bk ?_ | refine lp_rt ?_ | refine lp_rf ?_ | refine nxt_rt ?_ | refine nxt_rf ?_ | refine nxt_bk ?_ | refine nxt_ct ?_ | refine end_nx ?_ | refine end_rt ?_ | refine end_rf ?_ | refine ws_next ?_ | refine ws_brk ?_ | refine ws_cnt ?_ | refine ws_do ?_ | refine ws_ret ?_ | refine ws_retF ?_ | refine ws_retN ?_ | refine ws_set ?_ | refine ws_acc ?_ | refine ws_par ?_ | refine ws_asg ?_ | refine ws_for ?_ | refine ws_if ?_ | refine we_2 ?_ | refine we_1 ?_ | refine we_n ?_ | refine we_3 ?_ | refine we_c ?_ | refine wo_none ?_ | refine wo_some ?_ | refine wl_cons ?_ | refine wl_nil ?_ | refine we_V ?_ | refine we_own ?_ | refine we_tup ?_ | refine wl_lst ?_ | refine wt_of ?_ | refine wt_or ?_ | refine wt_and ?_ | refine wt_not ?_ | refine we_and ?_ | refine we_or ?_ | refine we_not ?_ | refine we_if ?_ | refine we_isN ?_ | refine we_notN ?_ | refine we_chain ?_ | refine wt_yes ?_ | refine wi_L ?_ | refine wi_T ?_ | refine wi_S ?_ | refine wi_R1 ?_ | refine wi_R2 ?_ | refine wi_R3 ?_ | refine wi_E ?_ | refine we_call ?_ | refine we_callF ?_ | refine we_bm ?_ | refine wg_sb ?_ | refine we_m1 ?_ | refine we_rev ?_ | refine wo_add ?_ | refine wo_sub ?_ | refine wo_neg ?_ | refine wo_cmp ?_ | refine wo_eqI ?_ | refine wo_neI ?_ | refine wo_eqS ?_ | refine wo_neS ?_ | refine wo_eqB ?_ | refine wo_neB ?_ | refine wo_lenL ?_ | refine wo_lenT ?_ | refine wo_lenC ?_ | refine wo_max ?_ | refine wo_min ?_ | refine wo_slL ?_ | refine wo_listC ?_ | refine wo_listL ?_ | refine wo_listT ?_ | refine wo_tupT ?_ | refine wo_tupL ?_ | refine wo_intI ?_ | refine wo_intB ?_ | refine wo_strS ?_ | refine wo_inS ?_ | refine wo_ninS ?_) | ((with_reducible apply we_var); rfl) | ((with_reducible apply ws_frz); rfl) | ((with_reducible apply ws_app); rfl) | ((with_reducible apply ws_extend); rfl) | ((with_reducible apply ws_retA); rfl) | ((with_reducible apply ws_frz0); rfl) | ((with_reducible apply wo_isT); rfl; rfl) | (refine ⟨Nat.le_of_ble_eq_true rfl, ?_⟩) | (with_reducible refine ⟨_, rfl, ?_⟩) | (with_reducible refine wg_nm (Nat.le_of_ble_eq_true rfl) ?_) | (refine ⟨⟨Nat.le_of_ble_eq_true rfl, Nat.le_of_ble_eq_true rfl⟩, ?_⟩) | (with_reducible refine Or.inl ⟨_, rfl, ?_⟩) | (with_reducible refine Or.inr ⟨_, rfl, ?_⟩))
      have eq2 : (S.set m (.lst (((x / n) :: xs).map .int))).get l = some (.lst [.ref m, .int q]) := (if_neg (by have := b.ne; omega)).trans eq
      refine wo_ixR eq2 (by decide) rfl ?_
      repeat (first | with_reducible (first | refine ws_seq ?_ | refine nxt_nx ?_ | refine lp_nx ?_ | refine lp_ct ?_ | refine lp_bk ?_ | refine lp_rt ?_ | refine lp_rf ?_ | refine nxt_rt ?_ | refine nxt_rf ?_ | refine nxt_bk ?_ | refine nxt_ct ?_ | refine end_nx ?_ | refine end_rt ?_ | refine end_rf ?_ | refine ws_next ?_ | refine ws_brk ?_ | refine ws_cnt ?_ | refine ws_do ?_ | refine ws_ret ?_ | refine ws_retF ?_ | refine ws_retN ?_ | refine ws_set ?_ | refine ws_acc ?_ | refine ws_par ?_ | refine ws_asg ?_ | refine ws_for ?_ | refine ws_if ?_ | refine we_2 ?_ | refine we_1 ?_ | refine we_n ?_ | refine we_3 ?_ | refine we_c ?_ | refine wo_none ?_ | refine wo_some ?_ | refine wl_cons ?_ | refine wl_nil ?_ | refine we_V ?_ | refine we_own ?_ | refine we_tup ?_ | refine wl_lst ?_ | refine wt_of ?_ | refine wt_or ?_ | refine wt_and ?_ | refine wt_not ?_ | refine we_and ?_ | refine we_or ?_ | refine we_not ?_ | refine we_if ?_ | refine we_isN ?_ | refine we_notN ?_ | refine we_chain ?_ | refine wt_yes ?_ | refine wi_L ?_ | refine wi_T ?_ | refine wi_S ?_ | refine wi_R1 ?_ | refine wi_R2 ?_ | refine wi_R3 ?_ | refine wi_E ?_ | refine we_call ?_ | refine we_callF ?_ | refine we_bm ?_ | refine wg_sb ?_ | refine we_m1 ?_ | refine we_rev ?_ | refine wo_add ?_ | refine wo_sub ?_ | refine wo_neg ?_ | refine wo_cmp ?_ | refine wo_eqI ?_ | refine wo_neI ?_ | refine wo_eqS ?_ | refine wo_neS ?_ | refine wo_eqB ?_ | refine wo_neB ?_ | refine wo_lenL ?_ | refine wo_lenT ?_ | refine wo_lenC ?_ | refine wo_max ?_ | refine wo_min ?_ | refine wo_slL ?_ | refine wo_listC ?_ | refine wo_listL ?_ | refine wo_listT ?_ | refine wo_tupT ?_ | refine wo_tupL ?_ | refine wo_intI ?_ | refine wo_intB ?_ | refine wo_strS ?_ | refine wo_inS ?_ | refine wo_ninS ?_) | ((with_reducible apply we_var); rfl) | ((with_reducible apply ws_frz); rfl) | ((with_reducible apply ws_app); rfl) | ((with_reducible apply ws_extend); rfl) | ((with_reducible apply ws_retA); rfl) | ((with_reducible apply ws_frz0); rfl) | ((with_reducible apply wo_isT); rfl; rfl) | (refine ⟨Nat.le_of_ble_eq_true rfl, ?_⟩) | (with_reducible refine ⟨_, rfl, ?_⟩) | (with_reducible refine wg_nm (Nat.le_of_ble_eq_true rfl) ?_) | (refine ⟨⟨Nat.le_of_ble_eq_true rfl, Nat.le_of_ble_eq_true rfl⟩, ?_⟩) | (with_reducible refine Or.inl ⟨_, rfl, ?_⟩) | (with_reducible refine Or.inr ⟨_, rfl, ?_⟩))
      refine wo_ixR ex2 (by decide) rfl ?_
      repeat (first | with_reducible (first | refine ws_seq ?_ | refine nxt_nx ?_ | refine lp_nx ?_ | refine lp_ct ?_ | refine lp_bk ?_ | refine lp_rt ?_ | refine lp_rf ?_ | refine nxt_rt ?_ | refine nxt_rf ?_ | refine nxt_bk ?_ | refine nxt_ct ?_ | refine end_nx ?_ | refine end_rt ?_ | refine end_rf ?_ | refine ws_next ?_ | refine ws_brk ?_ | refine ws_cnt ?_ | refine ws_do ?_ | refine ws_ret ?_ | refine ws_retF ?_ | refine ws_retN ?_ | refine ws_set ?_ | refine ws_acc ?_ | refine ws_par ?_ | refine ws_asg ?_ | refine ws_for ?_ | refine ws_if ?_ | refine we_2 ?_ | refine we_1 ?_ | refine we_n ?_ | refine we_3 ?_ | refine we_c ?_ | refine wo_none ?_ | refine wo_some ?_ | refine wl_cons ?_ | refine wl_nil ?_ | refine we_V ?_ | refine we_own ?_ | refine we_tup ?_ | refine wl_lst ?_ | refine wt_of ?_ | refine wt_or ?_ | refine wt_and ?_ | refine wt_not ?_ | refine we_and ?_ | refine we_or ?_ | refine we_not ?_ | refine we_if ?_ | refine we_isN ?_ | refine we_notN ?_ | refine we_chain ?_ | refine wt_yes ?_ | refine wi_L ?_ | refine wi_T ?_ | refine wi_S ?_ | refine wi_R1 ?_ | refine wi_R2 ?_ | refine wi_R3 ?_ | refine wi_E ?_ | refine we_call ?_ | refine we_callF ?_ | refine we_bm ?_ | refine wg_sb ?_ | refine we_m1 ?_ | refine we_rev ?_ | refine wo_add ?_ | refine wo_sub ?_ | refine wo_neg ?_ | refine wo_cmp ?_ | refine wo_eqI ?_ | refine wo_neI ?_ | refine wo_eqS ?_ | refine wo_neS ?_ | refine wo_eqB ?_ | refine wo_neB ?_ | refine wo_lenL ?_ | refine wo_lenT ?_ | refine wo_lenC ?_ | refine wo_max ?_ | refine wo_min ?_ | refine wo_slL ?_ | refine wo_listC ?_ | refine wo_listL ?_ | refine wo_listT ?_ | refine wo_tupT ?_ | refine wo_tupL ?_ | refine wo_intI ?_ | refine wo_intB ?_ | refine wo_strS ?_ | refine wo_inS ?_ | refine wo_ninS ?_) | ((with_reducible apply we_var); rfl) | ((with_reducible apply ws_frz); rfl) | ((with_reducible apply ws_app); rfl) | ((with_reducible apply ws_extend); rfl) | ((with_reducible apply ws_retA); rfl) | ((with_reducible apply ws_frz0); rfl) | ((with_reducible apply wo_isT); rfl; rfl) | (refine ⟨Nat.le_of_ble_eq_true rfl, ?_⟩) | (with_reducible refine ⟨_, rfl, ?_⟩) | (with_reducible refine wg_nm (Nat.le_of_ble_eq_true rfl) ?_) | (refine ⟨⟨Nat.le_of_ble_eq_true rfl, Nat.le_of_ble_eq_true rfl⟩, ?_⟩) | (with_reducible refine Or.inl ⟨_, rfl, ?_⟩) | (with_reducible refine Or.inr ⟨_, rfl, ?_⟩))
      refine ⟨fun _ => ?_, fun _ => ?_⟩
      · refine ⟨fun _ => ?_, fun z => nomatch z⟩
        repeat (first | with_reducible (first | refine ws_seq ?_ | refine nxt_nx ?_ | refine lp_nx ?_ | refine lp_ct ?_ | refine lp_bk ?_ | refine lp_rt ?_ | refine lp_rf ?_ | refine nxt_rt ?_ | refine nxt_rf ?_ | refine nxt_bk ?_ | refine nxt_ct ?_ | refine end_nx ?_ | refine end_rt ?_ | refine end_rf ?_ | refine ws_next ?_ | refine ws_brk ?_ | refine ws_cnt ?_ | refine ws_do ?_ | refine ws_ret ?_ | refine ws_retF ?_ | refine ws_retN ?_ | refine ws_set ?_ | refine ws_acc ?_ | refine ws_par ?_ | refine ws_asg ?_ | refine ws_for ?_ | refine ws_if ?_ | refine we_2 ?_ | refine we_1 ?_ | refine we_n ?_ | refine we_3 ?_ | refine we_c ?_ | refine wo_none ?_ | refine wo_some ?_ | refine wl_cons ?_ | refine wl_nil ?_ | refine we_V ?_ | refine we_own ?_ | refine we_tup ?_ | refine wl_lst ?_ | refine wt_of ?_ | refine wt_or ?_ | refine wt_and ?_ | refine wt_not ?_ | refine we_and ?_ | refine we_or ?_ | refine we_not ?_ | refine we_if ?_ | refine we_isN ?_ | refine we_notN ?_ | refine we_chain ?_ | refine wt_yes ?_ | refine wi_L ?_ | refine wi_T ?_ | refine wi_S ?_ | refine wi_R1 ?_ | refine wi_R2 ?_ | refine wi_R3 ?_ | refine wi_E ?_ | refine we_call ?_ | refine we_callF ?_ | refine we_bm ?_ | refine wg_sb ?_ | refine we_m1 ?_ | refine we_rev ?_ | refine wo_add ?_ | refine wo_sub ?_ | refine wo_neg ?_ | refine wo_cmp ?_ | refine wo_eqI ?_ | refine wo_neI ?_ | refine wo_eqS ?_ | refine wo_neS ?_ | refine wo_eqB ?_ | refine wo_neB ?_ | refine wo_lenL ?_ | refine wo_lenT ?_ | refine wo_lenC ?_ | refine wo_max ?_ | refine wo_min ?_ | refine wo_slL ?_ | refine wo_listC ?_ | refine wo_listL ?_ | refine wo_listT ?_ | refine wo_tupT ?_ | refine wo_tupL ?_ | refine wo_intI ?_ | refine wo_intB ?_ | refine wo_strS ?_ | refine wo_inS ?_ | refine wo_ninS ?_) | ((with_reducible apply we_var); rfl) | ((with_reducible apply ws_frz); rfl) | ((with_reducible apply ws_app); rfl) | ((with_reducible apply ws_extend); rfl) | ((with_reducible apply ws_retA); rfl) | ((with_reducible apply ws_frz0); rfl) | ((with_reducible apply wo_isT); rfl; rfl) | (refine ⟨Nat.le_of_ble_eq_true rfl, ?_⟩) | (with_reducible refine ⟨_, rfl, ?_⟩) | (with_reducible refine wg_nm (Nat.le_of_ble_eq_true rfl) ?_) | (refine ⟨⟨Nat.le_of_ble_eq_true rfl, Nat.le_of_ble_eq_true rfl⟩, ?_⟩) | (with_reducible refine Or.inl ⟨_, rfl, ?_⟩) | (with_reducible refine Or.inr ⟨_, rfl, ?_⟩))
        refine wo_ixR eq2 (by decide) rfl ?_
        repeat (first | with_reducible (first | refine ws_seq ?_ | refine nxt_nx ?_ | refine lp_nx ?_ | refine lp_ct ?_ | refine lp_bk ?_ | refine lp_rt ?_ | refine lp_rf ?_ | refine nxt_rt ?_ | refine nxt_rf ?_ | refine nxt_bk ?_ | refine nxt_ct ?_ | refine end_nx ?_ | refine end_rt ?_ | refine end_rf ?_ | refine ws_next ?_ | refine ws_brk ?_ | refine ws_cnt ?_ | refine ws_do ?_ | refine ws_ret ?_ | refine ws_retF ?_ | refine ws_retN ?_ | refine ws_set ?_ | refine ws_acc ?_ | refine ws_par ?_ | refine ws_asg ?_ | refine ws_for ?_ | refine ws_if ?_ | refine we_2 ?_ | refine we_1 ?_ | refine we_n ?_ | refine we_3 ?_ | refine we_c ?_ | refine wo_none ?_ | refine wo_some ?_ | refine wl_cons ?_ | refine wl_nil ?_ | refine we_V ?_ | refine we_own ?_ | refine we_tup ?_ | refine wl_lst ?_ | refine wt_of ?_ | refine wt_or ?_ | refine wt_and ?_ | refine wt_not ?_ | refine we_and ?_ | refine we_or ?_ | refine we_not ?_ | refine we_if ?_ | refine we_isN ?_ | refine we_notN ?_ | refine we_chain ?_ | refine wt_yes ?_ | refine wi_L ?_ | refine wi_T ?_ | refine wi_S ?_ | refine wi_R1 ?_ | refine wi_R2 ?_ | refine wi_R3 ?_ | refine wi_E ?_ | refine we_call ?_ | refine we_callF ?_ | refine we_bm ?_ | refine wg_sb ?_ | refine we_m1 ?_ | refine we_rev ?_ | refine wo_add ?_ | refine wo_sub ?_ | refine wo_neg ?_ | refine wo_cmp ?_ | refine wo_eqI ?_ | refine wo_neI ?_ | refine wo_eqS ?_ | refine wo_neS ?_ | refine wo_eqB ?_ | refine wo_neB ?_ | refine wo_lenL ?_ | refine wo_lenT ?_ | refine wo_lenC ?_ | refine wo_max ?_ | refine wo_min ?_ | refine wo_slL ?_ | refine wo_listC ?_ | refine wo_listL ?_ | refine wo_listT ?_ | refine wo_tupT ?_ | refine wo_tupL ?_ | refine wo_intI ?_ | refine wo_intB ?_ | refine wo_strS ?_ | refine wo_inS ?_ | refine wo_ninS ?_) | ((with_reducible apply we_var); rfl) | ((with_reducible apply ws_frz); rfl) | ((with_reducible apply ws_app); rfl) | ((with_reducible apply ws_extend); rfl) | ((with_reducible apply ws_retA); rfl) | ((with_reducible apply ws_frz0); rfl) | ((with_reducible apply wo_isT); rfl; rfl) | (refine ⟨Nat.le_of_ble_eq_true rfl, ?_⟩) | (with_reducible refine ⟨_, rfl, ?_⟩) | (with_reducible refine wg_nm (Nat.le_of_ble_eq_true rfl) ?_) | (refine ⟨⟨Nat.le_of_ble_eq_true rfl, Nat.le_of_ble_eq_true rfl⟩, ?_⟩) | (with_reducible refine Or.inl ⟨_, rfl, ?_⟩) | (with_reducible refine Or.inr ⟨_, rfl, ?_⟩))
        refine ⟨_, _, rfl, ex2, ?_⟩
        repeat (first | with_reducible (first | refine ws_seq ?_ | refine nxt_nx ?_ | refine lp_nx ?_ | refine lp_ct ?_ | refine lp_bk ?_ | refine lp_rt ?_ | refine lp_rf ?_ | refine nxt_rt ?_ | refine nxt_rf ?_ | refine nxt_bk ?_ | refine nxt_ct ?_ | refine end_nx ?_ | refine end_rt ?_ | refine end_rf ?_ | refine ws_next ?_ | refine ws_brk ?_ | refine ws_cnt ?_ | refine ws_do ?_ | refine ws_ret ?_ | refine ws_retF ?_ | refine ws_retN ?_ | refine ws_set ?_ | refine ws_acc ?_ | refine ws_par ?_ | refine ws_asg ?_ | refine ws_for ?_ | refine ws_if ?_ | refine we_2 ?_ | refine we_1 ?_ | refine we_n ?_ | refine we_3 ?_ | refine we_c ?_ | refine wo_none ?_ | refine wo_some ?_ | refine wl_cons ?_ | refine wl_nil ?_ | refine we_V ?_ | refine we_own ?_ | refine we_tup ?_ | refine wl_lst ?_ | refine wt_of ?_ | refine wt_or ?_ | refine wt_and ?_ | refine wt_not ?_ | refine we_and ?_ | refine we_or ?_ | refine we_not ?_ | refine we_if ?_ | refine we_isN ?_ | refine we_notN ?_ | refine we_chain ?_ | refine wt_yes ?_ | refine wi_L ?_ | refine wi_T ?_ | refine wi_S ?_ | refine wi_R1 ?_ | refine wi_R2 ?_ | refine wi_R3 ?_ | refine wi_E ?_ | refine we_call ?_ | refine we_callF ?_ | refine we_bm ?_ | refine wg_sb ?_ | refine we_m1 ?_ | refine we_rev ?_ | refine wo_add ?_ | refine wo_sub ?_ | refine wo_neg ?_ | refine wo_cmp ?_ | refine wo_eqI ?_ | refine wo_neI ?_ | refine wo_eqS ?_ | refine wo_neS ?_ | refine wo_eqB ?_ | refine wo_neB ?_ | refine wo_lenL ?_ | refine wo_lenT ?_ | refine wo_lenC ?_ | refine wo_max ?_ | refine wo_min ?_ | refine wo_slL ?_ | refine wo_listC ?_ | refine wo_listL ?_ | refine wo_listT ?_ | refine wo_tupT ?_ | refine wo_tupL ?_ | refine wo_intI ?_ | refine wo_intB ?_ | refine wo_strS ?_ | refine wo_inS ?_ | refine wo_ninS ?_) | ((with_reducible apply we_var); rfl) | ((with_reducible apply ws_frz); rfl) | ((with_reducible apply ws_app); rfl) | ((with_reducible apply ws_extend); rfl) | ((with_reducible apply ws_retA); rfl) | ((with_reducible apply ws_frz0); rfl) | ((with_reducible apply wo_isT); rfl; rfl) | (refine ⟨Nat.le_of_ble_eq_true rfl, ?_⟩) | (with_reducible refine ⟨_, rfl, ?_⟩) | (with_reducible refine wg_nm (Nat.le_of_ble_eq_true rfl) ?_) | (refine ⟨⟨Nat.le_of_ble_eq_true rfl, Nat.le_of_ble_eq_true rfl⟩, ?_⟩) | (with_reducible refine Or.inl ⟨_, rfl, ?_⟩) | (with_reducible refine Or.inr ⟨_, rfl, ?_⟩))
        refine wo_popAt ex2 (by decide) rfl (by simp at lx ⊢; omega) ?_
        repeat (first | with_reducible (first | refine ws_seq ?_ | refine nxt_nx ?_ | refine lp_nx ?_ | refine lp_ct ?_ | refine lp_bk ?_ | refine lp_rt ?_ | refine lp_rf ?_ | refine nxt_rt ?_ | refine nxt_rf ?_ | refine nxt_bk ?_ | refine nxt_ct ?_ | refine end_nx ?_ | refine end_rt ?_ | refine end_rf ?_ | refine ws_next ?_ | refine ws_brk ?_ | refine ws_cnt ?_ | refine ws_do ?_ | refine ws_ret ?_ | refine ws_retF ?_ | refine ws_retN ?_ | refine ws_set ?_ | refine ws_acc ?_ | refine ws_par ?_ | refine ws_asg ?_ | refine ws_for ?_ | refine ws_if ?_ | refine we_2 ?_ | refine we_1 ?_ | refine we_n ?_ | refine we_3 ?_ | refine we_c ?_ | refine wo_none ?_ | refine wo_some ?_ | refine wl_cons ?_ | refine wl_nil ?_ | refine we_V ?_ | refine we_own ?_ | refine we_tup ?_ | refine wl_lst ?_ | refine wt_of ?_ | refine wt_or ?_ | refine wt_and ?_ | refine wt_not ?_ | refine we_and ?_ | refine we_or ?_ | refine we_not ?_ | refine we_if ?_ | refine we_isN ?_ | refine we_notN ?_ | refine we_chain ?_ | refine wt_yes ?_ | refine wi_L ?_ | refine wi_T ?_ | refine wi_S ?_ | refine wi_R1 ?_ | refine wi_R2 ?_ | refine wi_R3 ?_ | refine wi_E ?_ | refine we_call ?_ | refine we_callF ?_ | refine we_bm ?_ | refine wg_sb ?_ | refine we_m1 ?_ | refine we_rev ?_ | refine wo_add ?_ | refine wo_sub ?_ | refine wo_neg ?_ | refine wo_cmp ?_ | refine wo_eqI ?_ | refine wo_neI ?_ | refine wo_eqS ?_ | refine wo_neS ?_ | refine wo_eqB ?_ | refine wo_neB ?_ | refine wo_lenL ?_ | refine wo_lenT ?_ | refine wo_lenC ?_ | refine wo_max ?_ | refine wo_min ?_ | refine wo_slL ?_ | refine wo_listC ?_ | refine wo_listL ?_ | refine wo_listT ?_ | refine wo_tupT ?_ | refine wo_tupL ?_ | refine wo_intI ?_ | refine wo_intB ?_ | refine wo_strS ?_ | refine wo_inS ?_ | refine wo_ninS ?_) | ((with_reducible apply we_var); rfl) | ((with_reducible apply ws_frz); rfl) | ((with_reducible apply ws_app); rfl) | ((with_reducible apply ws_extend); rfl) | ((with_reducible apply ws_retA); rfl) | ((with_reducible apply ws_frz0); rfl) | ((with_reducible apply wo_isT); rfl; rfl) | (refine ⟨Nat.le_of_ble_eq_true rfl, ?_⟩) | (with_reducible refine ⟨_, rfl, ?_⟩) | (with_reducible refine wg_nm (Nat.le_of_ble_eq_true rfl) ?_) | (refine ⟨⟨Nat.le_of_ble_eq_true rfl, Nat.le_of_ble_eq_true rfl⟩, ?_⟩) | (with_reducible refine Or.inl ⟨_, rfl, ?_⟩) | (with_reducible refine Or.inr ⟨_, rfl, ?_⟩))
        refine wo_mod h0 ?_
        repeat (first | with_reducible (first | refine ws_seq ?_ | refine nxt_nx ?_ | refine lp_nx ?_ | refine lp_ct ?_ | refine lp_bk ?_ | refine lp_rt ?_ | refine lp_rf ?_ | refine nxt_rt ?_ | refine nxt_rf ?_ | refine nxt_bk ?_ | refine nxt_ct ?_ | refine end_nx ?_ | refine end_rt ?_ | refine end_rf ?_ | refine ws_next ?_ | refine ws_brk ?_ | refine ws_cnt ?_ | refine ws_do ?_ | refine ws_ret ?_ | refine ws_retF ?_ | refine ws_retN ?_ | refine ws_set ?_ | refine ws_acc ?_ | refine ws_par ?_ | refine ws_asg ?_ | refine ws_for ?_ | refine ws_if ?_ | refine we_2 ?_ | refine we_1 ?_ | refine we_n ?_ | refine we_3 ?_ | refine we_c ?_ | refine wo_none ?_ | refine wo_some ?_ | refine wl_cons ?_ | refine wl_nil ?_ | refine we_V ?_ | refine we_own ?_ | refine we_tup ?_ | refine wl_lst ?_ | refine wt_of ?_ | refine wt_or ?_ | refine wt_and ?_ | refine wt_not ?_ | refine we_and ?_ | refine we_or ?_ | refine we_not ?_ | refine we_if ?_ | refine we_isN ?_ | refine we_notN ?_ | refine we_chain ?_ | refine wt_yes ?_ | refine wi_L ?_ | refine wi_T ?_ | refine wi_S ?_ | refine wi_R1 ?_ | refine wi_R2 ?_ | refine wi_R3 ?_ | refine wi_E ?_ | refine we_call ?_ | refine we_callF ?_ | refine we_bm ?_ | refine wg_sb ?_ | refine we_m1 ?_ | refine we_rev ?_ | refine wo_add ?_ | refine wo_sub ?_ | refine wo_neg ?_ | refine wo_cmp ?_ | refine wo_eqI ?_ | refine wo_neI ?_ | refine wo_eqS ?_ | refine wo_neS ?_ | refine wo_eqB ?_ | refine wo_neB ?_ | refine wo_lenL ?_ | refine wo_lenT ?_ | refine wo_lenC ?_ | refine wo_max ?_ | refine wo_min ?_ | refine wo_slL ?_ | refine wo_listC ?_ | refine wo_listL ?_ | refine wo_listT ?_ | refine wo_tupT ?_ | refine wo_tupL ?_ | refine wo_intI ?_ | refine wo_intB ?_ | refine wo_strS ?_ | refine wo_inS ?_ | refine wo_ninS ?_) | ((with_reducible apply we_var); rfl) | ((with_reducible apply ws_frz); rfl) | ((with_reducible apply ws_app); rfl) | ((with_reducible apply ws_extend); rfl) | ((with_reducible apply ws_retA); rfl) | ((with_reducible apply ws_frz0); rfl) | ((with_reducible apply wo_isT); rfl; rfl) | (refine ⟨Nat.le_of_ble_eq_true rfl, ?_⟩) | (with_reducible refine ⟨_, rfl, ?_⟩) | (with_reducible refine wg_nm (Nat.le_of_ble_eq_true rfl) ?_) | (refine ⟨⟨Nat.le_of_ble_eq_true rfl, Nat.le_of_ble_eq_true rfl⟩, ?_⟩) | (with_reducible refine Or.inl ⟨_, rfl, ?_⟩) | (with_reducible refine Or.inr ⟨_, rfl, ?_⟩))
        exact ⟨⟨Int.emod_nonneg _ (by omega), Int.emod_lt_of_pos _ h0⟩, bx.trans (Bx.setM bx.box (xs := xs) (by simp at lx; omega))⟩
      · repeat (first | with_reducible (first | refine ws_seq ?_ | refine nxt_nx ?_ | refine lp_nx ?_ | refine lp_ct ?_ | refine lp_bk ?_ | refine lp_rt ?_ | refine lp_rf ?_ | refine nxt_rt ?_ | refine nxt_rf ?_ | refine nxt_bk ?_ | refine nxt_ct ?_ | refine end_nx ?_ | refine end_rt ?_ | refine end_rf ?_ | refine ws_next ?_ | refine ws_brk ?_ | refine ws_cnt ?_ | refine ws_do ?_ | refine ws_ret ?_ | refine ws_retF ?_ | refine ws_retN ?_ | refine ws_set ?_ | refine ws_acc ?_ | refine ws_par ?_ | refine ws_asg ?_ | refine ws_for ?_ | refine ws_if ?_ | refine we_2 ?_ | refine we_1 ?_ | refine we_n ?_ | refine we_3 ?_ | refine we_c ?_ | refine wo_none ?_ | refine wo_some ?_ | refine wl_cons ?_ | refine wl_nil ?_ | refine we_V ?_ | refine we_own ?_ | refine we_tup ?_ | refine wl_lst ?_ | refine wt_of ?_ | refine wt_or ?_ | refine wt_and ?_ | refine wt_not ?_ | refine we_and ?_ | refine we_or ?_ | refine we_not ?_ | refine we_if ?_ | refine we_isN ?_ | refine we_notN ?_ | refine we_chain ?_ | refine wt_yes ?_ | refine wi_L ?_ | refine wi_T ?_ | refine wi_S ?_ | refine wi_R1 ?_ | refine wi_R2 ?_ | refine wi_R3 ?_ | refine wi_E ?_ | refine we_call ?_ | refine we_callF ?_ | refine we_bm ?_ | refine wg_sb ?_ | refine we_m1 ?_ | refine we_rev ?_ | refine wo_add ?_ | refine wo_sub ?_ | refine wo_neg ?_ | refine wo_cmp ?_ | refine wo_eqI ?_ | refine wo_neI ?_ | refine wo_eqS ?_ | refine wo_neS ?_ | refine wo_eqB ?_ | refine wo_neB ?_ | refine wo_lenL ?_ | refine wo_lenT ?_ | refine wo_lenC ?_ | refine wo_max ?_ | refine wo_min ?_ | refine wo_slL ?_ | refine wo_listC ?_ | refine wo_listL ?_ | refine wo_listT ?_ | refine wo_tupT ?_ | refine wo_tupL ?_ | refine wo_intI ?_ | refine wo_intB ?_ | refine wo_strS ?_ | refine wo_inS ?_ | refine wo_ninS ?_) | ((with_reducible apply we_var); rfl) | ((with_reducible apply ws_frz); rfl) | ((with_reducible apply ws_app); rfl) | ((with_reducible apply ws_extend); rfl) | ((with_reducible apply ws_retA); rfl) | ((with_reducible apply ws_frz0); rfl) | ((with_reducible apply wo_isT); rfl; rfl) | (refine ⟨Nat.le_of_ble_eq_true rfl, ?_⟩) | (with_reducible refine ⟨_, rfl, ?_⟩) | (with_reducible refine wg_nm (Nat.le_of_ble_eq_true rfl) ?_) | (refine ⟨⟨Nat.le_of_ble_eq_true rfl, Nat.le_of_ble_eq_true rfl⟩, ?_⟩) | (with_reducible refine Or.inl ⟨_, rfl, ?_⟩) | (with_reducible refine Or.inr ⟨_, rfl, ?_⟩))
        refine wo_ixR eq2 (by decide) rfl ?_
        repeat (first | with_reducible (first | refine ws_seq ?_ | refine nxt_nx ?_ | refine lp_nx ?_ | refine lp_ct ?_ | refine lp_bk ?_ | refine lp_rt ?_ | refine lp_rf ?_ | refine nxt_rt ?_ | refine nxt_rf ?_ | refine nxt_bk ?_ | refine nxt_ct ?_ | refine end_nx ?_ | refine end_rt ?_ | refine end_rf ?_ | refine ws_next ?_ | refine ws_brk ?_ | refine ws_cnt ?_ | refine ws_do ?_ | refine ws_ret ?_ | refine ws_retF ?_ | refine ws_retN ?_ | refine ws_set ?_ | refine ws_acc ?_ | refine ws_par ?_ | refine ws_asg ?_ | refine ws_for ?_ | refine ws_if ?_ | refine we_2 ?_ | refine we_1 ?_ | refine we_n ?_ | refine we_3 ?_ | refine we_c ?_ | refine wo_none ?_ | refine wo_some ?_ | refine wl_cons ?_ | refine wl_nil ?_ | refine we_V ?_ | refine we_own ?_ | refine we_tup ?_ | refine wl_lst ?_ | refine wt_of ?_ | refine wt_or ?_ | refine wt_and ?_ | refine wt_not ?_ | refine we_and ?_ | refine we_or ?_ | refine we_not ?_ | refine we_if ?_ | refine we_isN ?_ | refine we_notN ?_ | refine we_chain ?_ | refine wt_yes ?_ | refine wi_L ?_ | refine wi_T ?_ | refine wi_S ?_ | refine wi_R1 ?_ | refine wi_R2 ?_ | refine wi_R3 ?_ | refine wi_E ?_ | refine we_call ?_ | refine we_callF ?_ | refine we_bm ?_ | refine wg_sb ?_ | refine we_m1 ?_ | refine we_rev ?_ | refine wo_add ?_ | refine wo_sub ?_ | refine wo_neg ?_ | refine wo_cmp ?_ | refine wo_eqI ?_ | refine wo_neI ?_ | refine wo_eqS ?_ | refine wo_neS ?_ | refine wo_eqB ?_ | refine wo_neB ?_ | refine wo_lenL ?_ | refine wo_lenT ?_ | refine wo_lenC ?_ | refine wo_max ?_ | refine wo_min ?_ | refine wo_slL ?_ | refine wo_listC ?_ | refine wo_listL ?_ | refine wo_listT ?_ | refine wo_tupT ?_ | refine wo_tupL ?_ | refine wo_intI ?_ | refine wo_intB ?_ | refine wo_strS ?_ | refine wo_inS ?_ | refine wo_ninS ?_) | ((with_reducible apply we_var); rfl) | ((with_reducible apply ws_frz); rfl) | ((with_reducible apply ws_app); rfl) | ((with_reducible apply ws_extend); rfl) | ((with_reducible apply ws_retA); rfl) | ((with_reducible apply ws_frz0); rfl) | ((with_reducible apply wo_isT); rfl; rfl) | (refine ⟨Nat.le_of_ble_eq_true rfl, ?_⟩) | (with_reducible refine ⟨_, rfl, ?_⟩) | (with_reducible refine wg_nm (Nat.le_of_ble_eq_true rfl) ?_) | (refine ⟨⟨Nat.le_of_ble_eq_true rfl, Nat.le_of_ble_eq_true rfl⟩, ?_⟩) | (with_reducible refine Or.inl ⟨_, rfl, ?_⟩) | (with_reducible refine Or.inr ⟨_, rfl, ?_⟩))
        refine wo_ixR ex2 (by decide) rfl ?_
        repeat (first | with_reducible (first | refine ws_seq ?_ | refine nxt_nx ?_ | refine lp_nx ?_ | refine lp_ct ?_ | refine lp_bk ?_ | refine lp_rt ?_ | refine lp_rf ?_ | refine nxt_rt ?_ | refine nxt_rf ?_ | refine nxt_bk ?_ | refine nxt_ct ?_ | refine end_nx ?_ | refine end_rt ?_ | refine end_rf ?_ | refine ws_next ?_ | refine ws_brk ?_ | refine ws_cnt ?_ | refine ws_do ?_ | refine ws_ret ?_ | refine ws_retF ?_ | refine ws_retN ?_ | refine ws_set ?_ | refine ws_acc ?_ | refine ws_par ?_ | refine ws_asg ?_ | refine ws_for ?_ | refine ws_if ?_ | refine we_2 ?_ | refine we_1 ?_ | refine we_n ?_ | refine we_3 ?_ | refine we_c ?_ | refine wo_none ?_ | refine wo_some ?_ | refine wl_cons ?_ | refine wl_nil ?_ | refine we_V ?_ | refine we_own ?_ | refine we_tup ?_ | refine wl_lst ?_ | refine wt_of ?_ | refine wt_or ?_ | refine wt_and ?_ | refine wt_not ?_ | refine we_and ?_ | refine we_or ?_ | refine we_not ?_ | refine we_if ?_ | refine we_isN ?_ | refine we_notN ?_ | refine we_chain ?_ | refine wt_yes ?_ | refine wi_L ?_ | refine wi_T ?_ | refine wi_S ?_ | refine wi_R1 ?_ | refine wi_R2 ?_ | refine wi_R3 ?_ | refine wi_E ?_ | refine we_call ?_ | refine we_callF ?_ | refine we_bm ?_ | refine wg_sb ?_ | refine we_m1 ?_ | refine we_rev ?_ | refine wo_add ?_ | refine wo_sub ?_ | refine wo_neg ?_ | refine wo_cmp ?_ | refine wo_eqI ?_ | refine wo_neI ?_ | refine wo_eqS ?_ | refine wo_neS ?_ | refine wo_eqB ?_ | refine wo_neB ?_ | refine wo_lenL ?_ | refine wo_lenT ?_ | refine wo_lenC ?_ | refine wo_max ?_ | refine wo_min ?_ | refine wo_slL ?_ | refine wo_listC ?_ | refine wo_listL ?_ | refine wo_listT ?_ | refine wo_tupT ?_ | refine wo_tupL ?_ | refine wo_intI ?_ | refine wo_intB ?_ | refine wo_strS ?_ | refine wo_inS ?_ | refine wo_ninS ?_) | ((with_reducible apply we_var); rfl) | ((with_reducible apply ws_frz); rfl) | ((with_reducible apply ws_app); rfl) | ((with_reducible apply ws_extend); rfl) | ((with_reducible apply ws_retA); rfl) | ((with_reducible apply ws_frz0); rfl) | ((with_reducible apply wo_isT); rfl; rfl) | (refine ⟨Nat.le_of_ble_eq_true rfl, ?_⟩) | (with_reducible refine ⟨_, rfl, ?_⟩) | (with_reducible refine wg_nm (Nat.le_of_ble_eq_true rfl) ?_) | (refine ⟨⟨Nat.le_of_ble_eq_true rfl, Nat.le_of_ble_eq_true rfl⟩, ?_⟩) | (with_reducible refine Or.inl ⟨_, rfl, ?_⟩) | (with_reducible refine Or.inr ⟨_, rfl, ?_⟩))
        refine ⟨fun _ => ?_, fun _ => ?_⟩
        · repeat (first | with_reducible (first | refine ws_seq ?_ | refine nxt_nx ?_ | refine lp_nx ?_ | refine lp_ct ?_ | refine lp_bk ?_ | refine lp_rt ?_ | refine lp_rf ?_ | refine nxt_rt ?_ | refine nxt_rf ?_ | refine nxt_bk ?_ | refine nxt_ct ?_ | refine end_nx ?_ | refine end_rt ?_ | refine end_rf ?_ | refine ws_next ?_ | refine ws_brk ?_ | refine ws_cnt ?_ | refine ws_do ?_ | refine ws_ret ?_ | refine ws_retF ?_ | refine ws_retN ?_ | refine ws_set ?_ | refine ws_acc ?_ | refine ws_par ?_ | refine ws_asg ?_ | refine ws_for ?_ | refine ws_if ?_ | refine we_2 ?_ | refine we_1 ?_ | refine we_n ?_ | refine we_3 ?_ | refine we_c ?_ | refine wo_none ?_ | refine wo_some ?_ | refine wl_cons ?_ | refine wl_nil ?_ | refine we_V ?_ | refine we_own ?_ | refine we_tup ?_ | refine wl_lst ?_ | refine wt_of ?_ | refine wt_or ?_ | refine wt_and ?_ | refine wt_not ?_ | refine we_and ?_ | refine we_or ?_ | refine we_not ?_ | refine we_if ?_ | refine we_isN ?_ | refine we_notN ?_ | refine we_chain ?_ | refine wt_yes ?_ | refine wi_L ?_ | refine wi_T ?_ | refine wi_S ?_ | refine wi_R1 ?_ | refine wi_R2 ?_ | refine wi_R3 ?_ | refine wi_E ?_ | refine we_call ?_ | refine we_callF ?_ | refine we_bm ?_ | refine wg_sb ?_ | refine we_m1 ?_ | refine we_rev ?_ | refine wo_add ?_ | refine wo_sub ?_ | refine wo_neg ?_ | refine wo_cmp ?_ | refine wo_eqI ?_ | refine wo_neI ?_ | refine wo_eqS ?_ | refine wo_neS ?_ | refine wo_eqB ?_ | refine wo_neB ?_ | refine wo_lenL ?_ | refine wo_lenT ?_ | refine wo_lenC ?_ | refine wo_max ?_ | refine wo_min ?_ | refine wo_slL ?_ | refine wo_listC ?_ | refine wo_listL ?_ | refine wo_listT ?_ | refine wo_tupT ?_ | refine wo_tupL ?_ | refine wo_intI ?_ | refine wo_intB ?_ | refine wo_strS ?_ | refine wo_inS ?_ | refine wo_ninS ?_) | ((with_reducible apply we_var); rfl) | ((with_reducible apply ws_frz); rfl) | ((with_reducible apply ws_app); rfl) | ((with_reducible apply ws_extend); rfl) | ((with_reducible apply ws_retA); rfl) | ((with_reducible apply ws_frz0); rfl) | ((with_reducible apply wo_isT); rfl; rfl) | (refine ⟨Nat.le_of_ble_eq_true rfl, ?_⟩) | (with_reducible refine ⟨_, rfl, ?_⟩) | (with_reducible refine wg_nm (Nat.le_of_ble_eq_true rfl) ?_) | (refine ⟨⟨Nat.le_of_ble_eq_true rfl, Nat.le_of_ble_eq_true rfl⟩, ?_⟩) | (with_reducible refine Or.inl ⟨_, rfl, ?_⟩) | (with_reducible refine Or.inr ⟨_, rfl, ?_⟩))
          refine wo_ixR eq2 (by decide) rfl ?_
          repeat (first | with_reducible (first | refine ws_seq ?_ | refine nxt_nx ?_ | refine lp_nx ?_ | refine lp_ct ?_ | refine lp_bk ?_ | refine lp_rt ?_ | refine lp_rf ?_ | refine nxt_rt ?_ | refine nxt_rf ?_ | refine nxt_bk ?_ | refine nxt_ct ?_ | refine end_nx ?_ | refine end_rt ?_ | refine end_rf ?_ | refine ws_next ?_ | refine ws_brk ?_ | refine ws_cnt ?_ | refine ws_do ?_ | refine ws_ret ?_ | refine ws_retF ?_ | refine ws_retN ?_ | refine ws_set ?_ | refine ws_acc ?_ | refine ws_par ?_ | refine ws_asg ?_ | refine ws_for ?_ | refine ws_if ?_ | refine we_2 ?_ | refine we_1 ?_ | refine we_n ?_ | refine we_3 ?_ | refine we_c ?_ | refine wo_none ?_ | refine wo_some ?_ | refine wl_cons ?_ | refine wl_nil ?_ | refine we_V ?_ | refine we_own ?_ | refine we_tup ?_ | refine wl_lst ?_ | refine wt_of ?_ | refine wt_or ?_ | refine wt_and ?_ | refine wt_not ?_ | refine we_and ?_ | refine we_or ?_ | refine we_not ?_ | refine we_if ?_ | refine we_isN ?_ | refine we_notN ?_ | refine we_chain ?_ | refine wt_yes ?_ | refine wi_L ?_ | refine wi_T ?_ | refine wi_S ?_ | refine wi_R1 ?_ | refine wi_R2 ?_ | refine wi_R3 ?_ | refine wi_E ?_ | refine we_call ?_ | refine we_callF ?_ | refine we_bm ?_ | refine wg_sb ?_ | refine we_m1 ?_ | refine we_rev ?_ | refine wo_add ?_ | refine wo_sub ?_ | refine wo_neg ?_ | refine wo_cmp ?_ | refine wo_eqI ?_ | refine wo_neI ?_ | refine wo_eqS ?_ | refine wo_neS ?_ | refine wo_eqB ?_ | refine wo_neB ?_ | refine wo_lenL ?_ | refine wo_lenT ?_ | refine wo_lenC ?_ | refine wo_max ?_ | refine wo_min ?_ | refine wo_slL ?_ | refine wo_listC ?_ | refine wo_listL ?_ | refine wo_listT ?_ | refine wo_tupT ?_ | refine wo_tupL ?_ | refine wo_intI ?_ | refine wo_intB ?_ | refine wo_strS ?_ | refine wo_inS ?_ | refine wo_ninS ?_) | ((with_reducible apply we_var); rfl) | ((with_reducible apply ws_frz); rfl) | ((with_reducible apply ws_app); rfl) | ((with_reducible apply ws_extend); rfl) | ((with_reducible apply ws_retA); rfl) | ((with_reducible apply ws_frz0); rfl) | ((with_reducible apply wo_isT); rfl; rfl) | (refine ⟨Nat.le_of_ble_eq_true rfl, ?_⟩) | (with_reducible refine ⟨_, rfl, ?_⟩) | (with_reducible refine wg_nm (Nat.le_of_ble_eq_true rfl) ?_) | (refine ⟨⟨Nat.le_of_ble_eq_true rfl, Nat.le_of_ble_eq_true rfl⟩, ?_⟩) | (with_reducible refine Or.inl ⟨_, rfl, ?_⟩) | (with_reducible refine Or.inr ⟨_, rfl, ?_⟩))
          refine ⟨_, _, rfl, ex2, ?_⟩
          repeat (first | with_reducible (first | refine ws_seq ?_ | refine nxt_nx ?_ | refine lp_nx ?_ | refine lp_ct ?_ | refine lp_bk ?_ | refine lp_rt ?_ | refine lp_rf ?_ | refine nxt_rt ?_ | refine nxt_rf ?_ | refine nxt_bk ?_ | refine nxt_ct ?_ | refine end_nx ?_ | refine end_rt ?_ | refine end_rf ?_ | refine ws_next ?_ | refine ws_brk ?_ | refine ws_cnt ?_ | refine ws_do ?_ | refine ws_ret ?_ | refine ws_retF ?_ | refine ws_retN ?_ | refine ws_set ?_ | refine ws_acc ?_ | refine ws_par ?_ | refine ws_asg ?_ | refine ws_for ?_ | refine ws_if ?_ | refine we_2 ?_ | refine we_1 ?_ | refine we_n ?_ | refine we_3 ?_ | refine we_c ?_ | refine wo_none ?_ | refine wo_some ?_ | refine wl_cons ?_ | refine wl_nil ?_ | refine we_V ?_ | refine we_own ?_ | refine we_tup ?_ | refine wl_lst ?_ | refine wt_of ?_ | refine wt_or ?_ | refine wt_and ?_ | refine wt_not ?_ | refine we_and ?_ | refine we_or ?_ | refine we_not ?_ | refine we_if ?_ | refine we_isN ?_ | refine we_notN ?_ | refine we_chain ?_ | refine wt_yes ?_ | refine wi_L ?_ | refine wi_T ?_ | refine wi_S ?_ | refine wi_R1 ?_ | refine wi_R2 ?_ | refine wi_R3 ?_ | refine wi_E ?_ | refine we_call ?_ | refine we_callF ?_ | refine we_bm ?_ | refine wg_sb ?_ | refine we_m1 ?_ | refine we_rev ?_ | refine wo_add ?_ | refine wo_sub ?_ | refine wo_neg ?_ | refine wo_cmp ?_ | refine wo_eqI ?_ | refine wo_neI ?_ | refine wo_eqS ?_ | refine wo_neS ?_ | refine wo_eqB ?_ | refine wo_neB ?_ | refine wo_lenL ?_ | refine wo_lenT ?_ | refine wo_lenC ?_ | refine wo_max ?_ | refine wo_min ?_ | refine wo_slL ?_ | refine wo_listC ?_ | refine wo_listL ?_ | refine wo_listT ?_ | refine wo_tupT ?_ | refine wo_tupL ?_ | refine wo_intI ?_ | refine wo_intB ?_ | refine wo_strS ?_ | refine wo_inS ?_ | refine wo_ninS ?_) | ((with_reducible apply we_var); rfl) | ((with_reducible apply ws_frz); rfl) | ((with_reducible apply ws_app); rfl) | ((with_reducible apply ws_extend); rfl) | ((with_reducible apply ws_retA); rfl) | ((with_reducible apply ws_frz0); rfl) | ((with_reducible apply wo_isT); rfl; rfl) | (refine ⟨Nat.le_of_ble_eq_true rfl, ?_⟩) | (with_reducible refine ⟨_, rfl, ?_⟩) | (with_reducible refine wg_nm (Nat.le_of_ble_eq_true rfl) ?_) | (refine ⟨⟨Nat.le_of_ble_eq_true rfl, Nat.le_of_ble_eq_true rfl⟩, ?_⟩) | (with_reducible refine Or.inl ⟨_, rfl, ?_⟩) | (with_reducible refine Or.inr ⟨_, rfl, ?_⟩))
          refine wo_popAt ex2 (by decide) rfl (by simp at lx ⊢; omega) ?_
          repeat (first | with_reducible (first | refine ws_seq ?_ | refine nxt_nx ?_ | refine lp_nx ?_ | refine lp_ct ?_ | refine lp_bk ?_ | refine lp_rt ?_ | refine lp_rf ?_ | refine nxt_rt ?_ | refine nxt_rf ?_ | refine nxt_bk ?_ | refine nxt_ct ?_ | refine end_nx ?_ | refine end_rt ?_ | refine end_rf ?_ | refine ws_next ?_ | refine ws_brk ?_ | refine ws_cnt ?_ | refine ws_do ?_ | refine ws_ret ?_ | refine ws_retF ?_ | refine ws_retN ?_ | refine ws_set ?_ | refine ws_acc ?_ | refine ws_par ?_ | refine ws_asg ?_ | refine ws_for ?_ | refine ws_if ?_ | refine we_2 ?_ | refine we_1 ?_ | refine we_n ?_ | refine we_3 ?_ | refine we_c ?_ | refine wo_none ?_ | refine wo_some ?_ | refine wl_cons ?_ | refine wl_nil ?_ | refine we_V ?_ | refine we_own ?_ | refine we_tup ?_ | refine wl_lst ?_ | refine wt_of ?_ | refine wt_or ?_ | refine wt_and ?_ | refine wt_not ?_ | refine we_and ?_ | refine we_or ?_ | refine we_not ?_ | refine we_if ?_ | refine we_isN ?_ | refine we_notN ?_ | refine we_chain ?_ | refine wt_yes ?_ | refine wi_L ?_ | refine wi_T ?_ | refine wi_S ?_ | refine wi_R1 ?_ | refine wi_R2 ?_ | refine wi_R3 ?_ | refine wi_E ?_ | refine we_call ?_ | refine we_callF ?_ | refine we_bm ?_ | refine wg_sb ?_ | refine we_m1 ?_ | refine we_rev ?_ | refine wo_add ?_ | refine wo_sub ?_ | refine wo_neg ?_ | refine wo_cmp ?_ | refine wo_eqI ?_ | refine wo_neI ?_ | refine wo_eqS ?_ | refine wo_neS ?_ | refine wo_eqB ?_ | refine wo_neB ?_ | refine wo_lenL ?_ | refine wo_lenT ?_ | refine wo_lenC ?_ | refine wo_max ?_ | refine wo_min ?_ | refine wo_slL ?_ | refine wo_listC ?_ | refine wo_listL ?_ | refine wo_listT ?_ | refine wo_tupT ?_ | refine wo_tupL ?_ | refine wo_intI ?_ | refine wo_intB ?_ | refine wo_strS ?_ | refine wo_inS ?_ | refine wo_ninS ?_) | ((with_reducible apply we_var); rfl) | ((with_reducible apply ws_frz); rfl) | ((with_reducible apply ws_app); rfl) | ((with_reducible apply ws_extend); rfl) | ((with_reducible apply ws_retA); rfl) | ((with_reducible apply ws_frz0); rfl) | ((with_reducible apply wo_isT); rfl; rfl) | (refine ⟨Nat.le_of_ble_eq_true rfl, ?_⟩) | (with_reducible refine ⟨_, rfl, ?_⟩) | (with_reducible refine wg_nm (Nat.le_of_ble_eq_true rfl) ?_) | (refine ⟨⟨Nat.le_of_ble_eq_true rfl, Nat.le_of_ble_eq_true rfl⟩, ?_⟩) | (with_reducible refine Or.inl ⟨_, rfl, ?_⟩) | (with_reducible refine Or.inr ⟨_, rfl, ?_⟩))
          refine wo_mod h0 ?_
          repeat (first | with_reducible (first | refine ws_seq ?_ | refine nxt_nx ?_ | refine lp_nx ?_ | refine lp_ct ?_ | refine lp_bk ?_ | refine lp_rt ?_ | refine lp_rf ?_ | refine nxt_rt ?_ | refine nxt_rf ?_ | refine nxt_bk ?_ | refine nxt_ct ?_ | refine end_nx ?_ | refine end_rt ?_ | refine end_rf ?_ | refine ws_next ?_ | refine ws_brk ?_ | refine ws_cnt ?_ | refine ws_do ?_ | refine ws_ret ?_ | refine ws_retF ?_ | refine ws_retN ?_ | refine ws_set ?_ | refine ws_acc ?_ | refine ws_par ?_ | refine ws_asg ?_ | refine ws_for ?_ | refine ws_if ?_ | refine we_2 ?_ | refine we_1 ?_ | refine we_n ?_ | refine we_3 ?_ | refine we_c ?_ | refine wo_none ?_ | refine wo_some ?_ | refine wl_cons ?_ | refine wl_nil ?_ | refine we_V ?_ | refine we_own ?_ | refine we_tup ?_ | refine wl_lst ?_ | refine wt_of ?_ | refine wt_or ?_ | refine wt_and ?_ | refine wt_not ?_ | refine we_and ?_ | refine we_or ?_ | refine we_not ?_ | refine we_if ?_ | refine we_isN ?_ | refine we_notN ?_ | refine we_chain ?_ | refine wt_yes ?_ | refine wi_L ?_ | refine wi_T ?_ | refine wi_S ?_ | refine wi_R1 ?_ | refine wi_R2 ?_ | refine wi_R3 ?_ | refine wi_E ?_ | refine we_call ?_ | refine we_callF ?_ | refine we_bm ?_ | refine wg_sb ?_ | refine we_m1 ?_ | refine we_rev ?_ | refine wo_add ?_ | refine wo_sub ?_ | refine wo_neg ?_ | refine wo_cmp ?_ | refine wo_eqI ?_ | refine wo_neI ?_ | refine wo_eqS ?_ | refine wo_neS ?_ | refine wo_eqB ?_ | refine wo_neB ?_ | refine wo_lenL ?_ | refine wo_lenT ?_ | refine wo_lenC ?_ | refine wo_max ?_ | refine wo_min ?_ | refine wo_slL ?_ | refine wo_listC ?_ | refine wo_listL ?_ | refine wo_listT ?_ | refine wo_tupT ?_ | refine wo_tupL ?_ | refine wo_intI ?_ | refine wo_intB ?_ | refine wo_strS ?_ | refine wo_inS ?_ | refine wo_ninS ?_) | ((with_reducible apply we_var); rfl) | ((with_reducible apply ws_frz); rfl) | ((with_reducible apply ws_app); rfl) | ((with_reducible apply ws_extend); rfl) | ((with_reducible apply ws_retA); rfl) | ((with_reducible apply ws_frz0); rfl) | ((with_reducible apply wo_isT); rfl; rfl) | (refine ⟨Nat.le_of_ble_eq_true rfl, ?_⟩) | (with_reducible refine ⟨_, rfl, ?_⟩) | (with_reducible refine wg_nm (Nat.le_of_ble_eq_true rfl) ?_) | (refine ⟨⟨Nat.le_of_ble_eq_true rfl, Nat.le_of_ble_eq_true rfl⟩, ?_⟩) | (with_reducible refine Or.inl ⟨_, rfl, ?_⟩) | (with_reducible refine Or.inr ⟨_, rfl, ?_⟩))
          exact ⟨⟨Int.emod_nonneg _ (by omega), Int.emod_lt_of_pos _ h0⟩, bx.trans (Bx.setM bx.box (xs := xs) (by simp at lx; omega))⟩
        · repeat (first | with_reducible (first | refine ws_seq ?_ | refine nxt_nx ?_ | refine lp_nx ?_ | refine lp_ct ?_ | refine lp_bk ?_ | refine lp_rt ?_ | refine lp_rf ?_ | refine nxt_rt ?_ | refine nxt_rf ?_ | refine nxt_bk ?_ | refine nxt_ct ?_ | refine end_nx ?_ | refine end_rt ?_ | refine end_rf ?_ | refine ws_next ?_ | refine ws_brk ?_ | refine ws_cnt ?_ | refine ws_do ?_ | refine ws_ret ?_ | refine ws_retF ?_ | refine ws_retN ?_ | refine ws_set ?_ | refine ws_acc ?_ | refine ws_par ?_ | refine ws_asg ?_ | refine ws_for ?_ | refine ws_if ?_ | refine we_2 ?_ | refine we_1 ?_ | refine we_n ?_ | refine we_3 ?_ | refine we_c ?_ | refine wo_none ?_ | refine wo_some ?_ | refine wl_cons ?_ | refine wl_nil ?_ | refine we_V ?_ | refine we_own ?_ | refine we_tup ?_ | refine wl_lst ?_ | refine wt_of ?_ | refine wt_or ?_ | refine wt_and ?_ | refine wt_not ?_ | refine we_and ?_ | refine we_or ?_ | refine we_not ?_ | refine we_if ?_ | refine we_isN ?_ | refine we_notN ?_ | refine we_chain ?_ | refine wt_yes ?_ | refine wi_L ?_ | refine wi_T ?_ | refine wi_S ?_ | refine wi_R1 ?_ | refine wi_R2 ?_ | refine wi_R3 ?_ | refine wi_E ?_ | refine we_call ?_ | refine we_callF ?_ | refine we_bm ?_ | refine wg_sb ?_ | refine we_m1 ?_ | refine we_rev ?_ | refine wo_add ?_ | refine wo_sub ?_ | refine wo_neg ?_ | refine wo_cmp ?_ | refine wo_eqI ?_ | refine wo_neI ?_ | refine wo_eqS ?_ | refine wo_neS ?_ | refine wo_eqB ?_ | refine wo_neB ?_ | refine wo_lenL ?_ | refine wo_lenT ?_ | refine wo_lenC ?_ | refine wo_max ?_ | refine wo_min ?_ | refine wo_slL ?_ | refine wo_listC ?_ | refine wo_listL ?_ | refine wo_listT ?_ | refine wo_tupT ?_ | refine wo_tupL ?_ | refine wo_intI ?_ | refine wo_intB ?_ | refine wo_strS ?_ | refine wo_inS ?_ | refine wo_ninS ?_) | ((with_reducible apply we_var); rfl) | ((with_reducible apply ws_frz); rfl) | ((with_reducible apply ws_app); rfl) | ((with_reducible apply ws_extend); rfl) | ((with_reducible apply ws_retA); rfl) | ((with_reducible apply ws_frz0); rfl) | ((with_reducible apply wo_isT); rfl; rfl) | (refine ⟨Nat.le_of_ble_eq_true rfl, ?_⟩) | (with_reducible refine ⟨_, rfl, ?_⟩) | (with_reducible refine wg_nm (Nat.le_of_ble_eq_true rfl) ?_) | (refine ⟨⟨Nat.le_of_ble_eq_true rfl, Nat.le_of_ble_eq_true rfl⟩, ?_⟩) | (with_reducible refine Or.inl ⟨_, rfl, ?_⟩) | (with_reducible refine Or.inr ⟨_, rfl, ?_⟩))
          refine wo_mod h0 ?_
          repeat (first | with_reducible (first | refine ws_seq ?_ | refine nxt_nx ?_ | refine lp_nx ?_ | refine lp_ct ?_ | refine lp_bk ?_ | refine lp_rt ?_ | refine lp_rf ?_ | refine nxt_rt ?_ | refine nxt_rf ?_ | refine nxt_bk ?_ | refine nxt_ct ?_ | refine end_nx ?_ | refine end_rt ?_ | refine end_rf ?_ | refine ws_next ?_ | refine ws_brk ?_ | refine ws_cnt ?_ | refine ws_do ?_ | refine ws_ret ?_ | refine ws_retF ?_ | refine ws_retN ?_ | refine ws_set ?_ | refine ws_acc ?_ | refine ws_par ?_ | refine ws_asg ?_ | refine ws_for ?_ | refine ws_if ?_ | refine we_2 ?_ | refine we_1 ?_ | refine we_n ?_ | refine we_3 ?_ | refine we_c ?_ | refine wo_none ?_ | refine wo_some ?_ | refine wl_cons ?_ | refine wl_nil ?_ | refine we_V ?_ | refine we_own ?_ | refine we_tup ?_ | refine wl_lst ?_ | refine wt_of ?_ | refine wt_or ?_ | refine wt_and ?_ | refine wt_not ?_ | refine we_and ?_ | refine we_or ?_ | refine we_not ?_ | refine we_if ?_ | refine we_isN ?_ | refine we_notN ?_ | refine we_chain ?_ | refine wt_yes ?_ | refine wi_L ?_ | refine wi_T ?_ | refine wi_S ?_ | refine wi_R1 ?_ | refine wi_R2 ?_ | refine wi_R3 ?_ | refine wi_E ?_ | refine we_call ?_ | refine we_callF ?_ | refine we_bm ?_ | refine wg_sb ?_ | refine we_m1 ?_ | refine we_rev ?_ | refine wo_add ?_ | refine wo_sub ?_ | refine wo_neg ?_ | refine wo_cmp ?_ | refine wo_eqI ?_ | refine wo_neI ?_ | refine wo_eqS ?_ | refine wo_neS ?_ | refine wo_eqB ?_ | refine wo_neB ?_ | refine wo_lenL ?_ | refine wo_lenT ?_ | refine wo_lenC ?_ | refine wo_max ?_ | refine wo_min ?_ | refine wo_slL ?_ | refine wo_listC ?_ | refine wo_listL ?_ | refine wo_listT ?_ | refine wo_tupT ?_ | refine wo_tupL ?_ | refine wo_intI ?_ | refine wo_intB ?_ | refine wo_strS ?_ | refine wo_inS ?_ | refine wo_ninS ?_) | ((with_reducible apply we_var); rfl) | ((with_reducible apply ws_frz); rfl) | ((with_reducible apply ws_app); rfl) | ((with_reducible apply ws_extend); rfl) | ((with_reducible apply ws_retA); rfl) | ((with_reducible apply ws_frz0); rfl) | ((with_reducible apply wo_isT); rfl; rfl) | (refine ⟨Nat.le_of_ble_eq_true rfl, ?_⟩) | (with_reducible refine ⟨_, rfl, ?_⟩) | (with_reducible refine wg_nm (Nat.le_of_ble_eq_true rfl) ?_) | (refine ⟨⟨Nat.le_of_ble_eq_true rfl, Nat.le_of_ble_eq_true rfl⟩, ?_⟩) | (with_reducible refine Or.inl ⟨_, rfl, ?_⟩) | (with_reducible refine Or.inr ⟨_, rfl, ?_⟩))
          exact ⟨⟨Int.emod_nonneg _ (by omega), Int.emod_lt_of_pos _ h0⟩, bx⟩
def bBegun : EvS := (sSeq (sAsg (eC (.int 0)) (gNm 1))
  (sSeq (sFor (iL (eVar 0)) (gNm 2) (sAsg (e2 fMod (e2 fAdd (e2 fAdd (e2 fMul (eVar 1) (eC (.int 48271))) (e2 fMul (eVar 2) (eC (.int 69621)))) (eC (.int 11))) (eC (.int 2147483647))) (gNm 1)))
  (sRet (eOwn (fLst (aCons (eOwn (eN fListOf (aCons (eVar 0) aNil))) (aCons (e2 fMul (eVar 1) (eN fInt (aCons (e2 fGt (eN fLen (aCons (eVar 0) aNil)) (eC (.int 2))) aNil))) aNil)))))))
def F_begun : Fn := runB 1 3 bBegun
/-- new things stand above -/
structure Up (S S' : Sto) : Prop where
  nx : S.next ≤ S'.next
  fr : ∀ k, k < S.next → S'.get k = S.get k
theorem Up.refl (S : Sto) : Up S S := ⟨Nat.le_refl _, fun _ _ => rfl⟩
theorem Up.trans {a b c : Sto} (x : Up a b) (y : Up b c) : Up a c := ⟨Nat.le_trans x.nx y.nx, fun k h => (y.fr k (Nat.lt_of_lt_of_le h x.nx)).trans (x.fr k h)⟩
theorem Up.new (S : Sto) (o : MO) : Up S (S.new o) := ⟨Nat.le_succ _, fun k h => if_neg (by omega)⟩
theorem Box.up {S S' : Sto} {l m : Nat} (b : Box S l m) (u : Up S S') : Box S' l m := by
  have h1 := b.ne
  have h2 := b.lt
  obtain ⟨q, e⟩ := b.out
  obtain ⟨xs, e2, z⟩ := b.inn
  exact ⟨b.ne, ⟨q, (u.fr l h2).trans e⟩, ⟨xs, (u.fr m (by omega)).trans e2, z⟩, Nat.lt_of_lt_of_le h2 u.nx⟩
theorem begun_ok {S : Sto} {ns : List Int} (hl : ns.length ≤ 63) : W (F_begun [.scr ns] S) fun o S' => ∃ l m, o = .v (.ref l) ∧ Box S' l m ∧ Up S S' := by
  refine w_run rfl ?_
  show WS (bBegun [.val (.scr ns), .no, .no] S) _
  unfold bBegun
  repeat (first | with_reducible (first | refine ws_seq ?_ | refine nxt_nx ?_ | refine lp_nx ?_ | refine lp_ct ?_ | refine lp_bk ?_ | refine lp_rt ?_ | refine lp_rf ?_ | refine nxt_rt ?_ | refine nxt_rf ?_ | refine nxt_bk ?_ | refine nxt_ct ?_ | refine end_nx ?_ | refine end_rt ?_ | refine end_rf ?_ | refine ws_next ?_ | refine ws_brk ?_ | refine ws_cnt ?_ | refine ws_do ?_ | refine ws_ret ?_ | refine ws_retF ?_ | refine ws_retN ?_ | refine ws_set ?_ | refine ws_acc ?_ | refine ws_par ?_ | refine ws_asg ?_ | refine ws_for ?_ | refine ws_if ?_ | refine we_2 ?_ | refine we_1 ?_ | refine we_n ?_ | refine we_3 ?_ | refine we_c ?_ | refine wo_none ?_ | refine wo_some ?_ | refine wl_cons ?_ | refine wl_nil ?_ | refine we_V ?_ | refine we_own ?_ | refine we_tup ?_ | refine wl_lst ?_ | refine wt_of ?_ | refine wt_or ?_ | refine wt_and ?_ | refine wt_not ?_ | refine we_and ?_ | refine we_or ?_ | refine we_not ?_ | refine we_if ?_ | refine we_isN ?_ | refine we_notN ?_ | refine we_chain ?_ | refine wt_yes ?_ | refine wi_L ?_ | refine wi_T ?_ | refine wi_S ?_ | refine wi_R1 ?_ | refine wi_R2 ?_ | refine wi_R3 ?_ | refine wi_E ?_ | refine we_call ?_ | refine we_callF ?_ | refine we_bm ?_ | refine wg_sb ?_ | refine we_m1 ?_ | refine we_rev ?_ | refine wo_add ?_ | refine wo_sub ?_ | refine wo_neg ?_ | refine wo_cmp ?_ | refine wo_eqI ?_ | refine wo_neI ?_ | refine wo_eqS ?_ | refine wo_neS ?_ | refine wo_eqB ?_ | refine wo_neB ?_ | refine wo_lenL ?_ | refine wo_lenT ?_ | refine wo_lenC ?_ | refine wo_max ?_ | refine wo_min ?_ | refine wo_slL ?_ | refine wo_listC ?_ | refine wo_listL ?_ | refine wo_listT ?_ | refine wo_tupT ?_ | refine wo_tupL ?_ | refine wo_intI ?_ | refine wo_intB ?_ | refine wo_strS ?_ | refine wo_inS ?_ | refine wo_ninS ?_) | ((with_reducible apply we_var); rfl) | ((with_reducible apply ws_frz); rfl) | ((with_reducible apply ws_app); rfl) | ((with_reducible apply ws_extend); rfl) | ((with_reducible apply ws_retA); rfl) | ((with_reducible apply ws_frz0); rfl) | ((with_reducible apply wo_isT); rfl; rfl) | (refine ⟨Nat.le_of_ble_eq_true rfl, ?_⟩) | (with_reducible refine ⟨_, rfl, ?_⟩) | (with_reducible refine wg_nm (Nat.le_of_ble_eq_true rfl) ?_) | (refine ⟨⟨Nat.le_of_ble_eq_true rfl, Nat.le_of_ble_eq_true rfl⟩, ?_⟩) | (with_reducible refine Or.inl ⟨_, rfl, ?_⟩) | (with_reducible refine Or.inr ⟨_, rfl, ?_⟩))
  refine ws_loop (fun _ ρ S1 => S1 = S ∧ ∃ (q : Int) (z : Sl), ρ = [.val (.scr ns), .val (.int q), z]) ⟨rfl, 0, .no, rfl⟩ ?_ ?_
  · rintro k d ρ S1 hk ⟨rfl, q, z, rfl⟩
    have e : ∃ x : Int, d = .int x := by
      rw [List.getElem?_map] at hk
      cases h : ns[k]? with
      | none => rw [h] at hk; cases hk
      | some x => rw [h] at hk; cases hk; exact ⟨x, rfl⟩
    obtain ⟨x, rfl⟩ := e
    repeat (first | with_reducible (first | refine ws_seq ?_ | refine nxt_nx ?_ | refine lp_nx ?_ | refine lp_ct ?_ | refine lp_bk ?_ | refine lp_rt ?_ | refine lp_rf ?_ | refine nxt_rt ?_ | refine nxt_rf ?_ | refine nxt_bk ?_ | refine nxt_ct ?_ | refine end_nx ?_ | refine end_rt ?_ | refine end_rf ?_ | refine ws_next ?_ | refine ws_brk ?_ | refine ws_cnt ?_ | refine ws_do ?_ | refine ws_ret ?_ | refine ws_retF ?_ | refine ws_retN ?_ | refine ws_set ?_ | refine ws_acc ?_ | refine ws_par ?_ | refine ws_asg ?_ | refine ws_for ?_ | refine ws_if ?_ | refine we_2 ?_ | refine we_1 ?_ | refine we_n ?_ | refine we_3 ?_ | refine we_c ?_ | refine wo_none ?_ | refine wo_some ?_ | refine wl_cons ?_ | refine wl_nil ?_ | refine we_V ?_ | refine we_own ?_ | refine we_tup ?_ | refine wl_lst ?_ | refine wt_of ?_ | refine wt_or ?_ | refine wt_and ?_ | refine wt_not ?_ | refine we_and ?_ | refine we_or ?_ | refine we_not ?_ | refine we_if ?_ | refine we_isN ?_ | refine we_notN ?_ | refine we_chain ?_ | refine wt_yes ?_ | refine wi_L ?_ | refine wi_T ?_ | refine wi_S ?_ | refine wi_R1 ?_ | refine wi_R2 ?_ | refine wi_R3 ?_ | refine wi_E ?_ | refine we_call ?_ | refine we_callF ?_ | refine we_bm ?_ | refine wg_sb ?_ | refine we_m1 ?_ | refine we_rev ?_ | refine wo_add ?_ | refine wo_sub ?_ | refine wo_neg ?_ | refine wo_cmp ?_ | refine wo_eqI ?_ | refine wo_neI ?_ | refine wo_eqS ?_ | refine wo_neS ?_ | refine wo_eqB ?_ | refine wo_neB ?_ | refine wo_lenL ?_ | refine wo_lenT ?_ | refine wo_lenC ?_ | refine wo_max ?_ | refine wo_min ?_ | refine wo_slL ?_ | refine wo_listC ?_ | refine wo_listL ?_ | refine wo_listT ?_ | refine wo_tupT ?_ | refine wo_tupL ?_ | refine wo_intI ?_ | refine wo_intB ?_ | refine wo_strS ?_ | refine wo_inS ?_ | refine wo_ninS ?_) | ((with_reducible apply we_var); rfl) | ((with_reducible apply ws_frz); rfl) | ((with_reducible apply ws_app); rfl) | ((with_reducible apply ws_extend); rfl) | ((with_reducible apply ws_retA); rfl) | ((with_reducible apply ws_frz0); rfl) | ((with_reducible apply wo_isT); rfl; rfl) | (refine ⟨Nat.le_of_ble_eq_true rfl, ?_⟩) | (with_reducible refine ⟨_, rfl, ?_⟩) | (with_reducible refine wg_nm (Nat.le_of_ble_eq_true rfl) ?_) | (refine ⟨⟨Nat.le_of_ble_eq_true rfl, Nat.le_of_ble_eq_true rfl⟩, ?_⟩) | (with_reducible refine Or.inl ⟨_, rfl, ?_⟩) | (with_reducible refine Or.inr ⟨_, rfl, ?_⟩))
    refine wo_mul (Or.inr (by decide)) ?_
    repeat (first | with_reducible (first | refine ws_seq ?_ | refine nxt_nx ?_ | refine lp_nx ?_ | refine lp_ct ?_ | refine lp_bk ?_ | refine lp_rt ?_ | refine lp_rf ?_ | refine nxt_rt ?_ | refine nxt_rf ?_ | refine nxt_bk ?_ | refine nxt_ct ?_ | refine end_nx ?_ | refine end_rt ?_ | refine end_rf ?_ | refine ws_next ?_ | refine ws_brk ?_ | refine ws_cnt ?_ | refine ws_do ?_ | refine ws_ret ?_ | refine ws_retF ?_ | refine ws_retN ?_ | refine ws_set ?_ | refine ws_acc ?_ | refine ws_par ?_ | refine ws_asg ?_ | refine ws_for ?_ | refine ws_if ?_ | refine we_2 ?_ | refine we_1 ?_ | refine we_n ?_ | refine we_3 ?_ | refine we_c ?_ | refine wo_none ?_ | refine wo_some ?_ | refine wl_cons ?_ | refine wl_nil ?_ | refine we_V ?_ | refine we_own ?_ | refine we_tup ?_ | refine wl_lst ?_ | refine wt_of ?_ | refine wt_or ?_ | refine wt_and ?_ | refine wt_not ?_ | refine we_and ?_ | refine we_or ?_ | refine we_not ?_ | refine we_if ?_ | refine we_isN ?_ | refine we_notN ?_ | refine we_chain ?_ | refine wt_yes ?_ | refine wi_L ?_ | refine wi_T ?_ | refine wi_S ?_ | refine wi_R1 ?_ | refine wi_R2 ?_ | refine wi_R3 ?_ | refine wi_E ?_ | refine we_call ?_ | refine we_callF ?_ | refine we_bm ?_ | refine wg_sb ?_ | refine we_m1 ?_ | refine we_rev ?_ | refine wo_add ?_ | refine wo_sub ?_ | refine wo_neg ?_ | refine wo_cmp ?_ | refine wo_eqI ?_ | refine wo_neI ?_ | refine wo_eqS ?_ | refine wo_neS ?_ | refine wo_eqB ?_ | refine wo_neB ?_ | refine wo_lenL ?_ | refine wo_lenT ?_ | refine wo_lenC ?_ | refine wo_max ?_ | refine wo_min ?_ | refine wo_slL ?_ | refine wo_listC ?_ | refine wo_listL ?_ | refine wo_listT ?_ | refine wo_tupT ?_ | refine wo_tupL ?_ | refine wo_intI ?_ | refine wo_intB ?_ | refine wo_strS ?_ | refine wo_inS ?_ | refine wo_ninS ?_) | ((with_reducible apply we_var); rfl) | ((with_reducible apply ws_frz); rfl) | ((with_reducible apply ws_app); rfl) | ((with_reducible apply ws_extend); rfl) | ((with_reducible apply ws_retA); rfl) | ((with_reducible apply ws_frz0); rfl) | ((with_reducible apply wo_isT); rfl; rfl) | (refine ⟨Nat.le_of_ble_eq_true rfl, ?_⟩) | (with_reducible refine ⟨_, rfl, ?_⟩) | (with_reducible refine wg_nm (Nat.le_of_ble_eq_true rfl) ?_) | (refine ⟨⟨Nat.le_of_ble_eq_true rfl, Nat.le_of_ble_eq_true rfl⟩, ?_⟩) | (with_reducible refine Or.inl ⟨_, rfl, ?_⟩) | (with_reducible refine Or.inr ⟨_, rfl, ?_⟩))
    refine wo_mul (Or.inr (by decide)) ?_
    repeat (first | with_reducible (first | refine ws_seq ?_ | refine nxt_nx ?_ | refine lp_nx ?_ | refine lp_ct ?_ | refine lp_bk ?_ | refine lp_rt ?_ | refine lp_rf ?_ | refine nxt_rt ?_ | refine nxt_rf ?_ | refine nxt_bk ?_ | refine nxt_ct ?_ | refine end_nx ?_ | refine end_rt ?_ | refine end_rf ?_ | refine ws_next ?_ | refine ws_brk ?_ | refine ws_cnt ?_ | refine ws_do ?_ | refine ws_ret ?_ | refine ws_retF ?_ | refine ws_retN ?_ | refine ws_set ?_ | refine ws_acc ?_ | refine ws_par ?_ | refine ws_asg ?_ | refine ws_for ?_ | refine ws_if ?_ | refine we_2 ?_ | refine we_1 ?_ | refine we_n ?_ | refine we_3 ?_ | refine we_c ?_ | refine wo_none ?_ | refine wo_some ?_ | refine wl_cons ?_ | refine wl_nil ?_ | refine we_V ?_ | refine we_own ?_ | refine we_tup ?_ | refine wl_lst ?_ | refine wt_of ?_ | refine wt_or ?_ | refine wt_and ?_ | refine wt_not ?_ | refine we_and ?_ | refine we_or ?_ | refine we_not ?_ | refine we_if ?_ | refine we_isN ?_ | refine we_notN ?_ | refine we_chain ?_ | refine wt_yes ?_ | refine wi_L ?_ | refine wi_T ?_ | refine wi_S ?_ | refine wi_R1 ?_ | refine wi_R2 ?_ | refine wi_R3 ?_ | refine wi_E ?_ | refine we_call ?_ | refine we_callF ?_ | refine we_bm ?_ | refine wg_sb ?_ | refine we_m1 ?_ | refine we_rev ?_ | refine wo_add ?_ | refine wo_sub ?_ | refine wo_neg ?_ | refine wo_cmp ?_ | refine wo_eqI ?_ | refine wo_neI ?_ | refine wo_eqS ?_ | refine wo_neS ?_ | refine wo_eqB ?_ | refine wo_neB ?_ | refine wo_lenL ?_ | refine wo_lenT ?_ | refine wo_lenC ?_ | refine wo_max ?_ | refine wo_min ?_ | refine wo_slL ?_ | refine wo_listC ?_ | refine wo_listL ?_ | refine wo_listT ?_ | refine wo_tupT ?_ | refine wo_tupL ?_ | refine wo_intI ?_ | refine wo_intB ?_ | refine wo_strS ?_ | refine wo_inS ?_ | refine wo_ninS ?_) | ((with_reducible apply we_var); rfl) | ((with_reducible apply ws_frz); rfl) | ((with_reducible apply ws_app); rfl) | ((with_reducible apply ws_extend); rfl) | ((with_reducible apply ws_retA); rfl) | ((with_reducible apply ws_frz0); rfl) | ((with_reducible apply wo_isT); rfl; rfl) | (refine ⟨Nat.le_of_ble_eq_true rfl, ?_⟩) | (with_reducible refine ⟨_, rfl, ?_⟩) | (with_reducible refine wg_nm (Nat.le_of_ble_eq_true rfl) ?_) | (refine ⟨⟨Nat.le_of_ble_eq_true rfl, Nat.le_of_ble_eq_true rfl⟩, ?_⟩) | (with_reducible refine Or.inl ⟨_, rfl, ?_⟩) | (with_reducible refine Or.inr ⟨_, rfl, ?_⟩))
    refine wo_mod (by decide) ?_
    repeat (first | with_reducible (first | refine ws_seq ?_ | refine nxt_nx ?_ | refine lp_nx ?_ | refine lp_ct ?_ | refine lp_bk ?_ | refine lp_rt ?_ | refine lp_rf ?_ | refine nxt_rt ?_ | refine nxt_rf ?_ | refine nxt_bk ?_ | refine nxt_ct ?_ | refine end_nx ?_ | refine end_rt ?_ | refine end_rf ?_ | refine ws_next ?_ | refine ws_brk ?_ | refine ws_cnt ?_ | refine ws_do ?_ | refine ws_ret ?_ | refine ws_retF ?_ | refine ws_retN ?_ | refine ws_set ?_ | refine ws_acc ?_ | refine ws_par ?_ | refine ws_asg ?_ | refine ws_for ?_ | refine ws_if ?_ | refine we_2 ?_ | refine we_1 ?_ | refine we_n ?_ | refine we_3 ?_ | refine we_c ?_ | refine wo_none ?_ | refine wo_some ?_ | refine wl_cons ?_ | refine wl_nil ?_ | refine we_V ?_ | refine we_own ?_ | refine we_tup ?_ | refine wl_lst ?_ | refine wt_of ?_ | refine wt_or ?_ | refine wt_and ?_ | refine wt_not ?_ | refine we_and ?_ | refine we_or ?_ | refine we_not ?_ | refine we_if ?_ | refine we_isN ?_ | refine we_notN ?_ | refine we_chain ?_ | refine wt_yes ?_ | refine wi_L ?_ | refine wi_T ?_ | refine wi_S ?_ | refine wi_R1 ?_ | refine wi_R2 ?_ | refine wi_R3 ?_ | refine wi_E ?_ | refine we_call ?_ | refine we_callF ?_ | refine we_bm ?_ | refine wg_sb ?_ | refine we_m1 ?_ | refine we_rev ?_ | refine wo_add ?_ | refine wo_sub ?_ | refine wo_neg ?_ | refine wo_cmp ?_ | refine wo_eqI ?_ | refine wo_neI ?_ | refine wo_eqS ?_ | refine wo_neS ?_ | refine wo_eqB ?_ | refine wo_neB ?_ | refine wo_lenL ?_ | refine wo_lenT ?_ | refine wo_lenC ?_ | refine wo_max ?_ | refine wo_min ?_ | refine wo_slL ?_ | refine wo_listC ?_ | refine wo_listL ?_ | refine wo_listT ?_ | refine wo_tupT ?_ | refine wo_tupL ?_ | refine wo_intI ?_ | refine wo_intB ?_ | refine wo_strS ?_ | refine wo_inS ?_ | refine wo_ninS ?_) | ((with_reducible apply we_var); rfl) | ((with_reducible apply ws_frz); rfl) | ((with_reducible apply ws_app); rfl) | ((with_reducible apply ws_extend); rfl) | ((with_reducible apply ws_retA); rfl) | ((with_reducible apply ws_frz0); rfl) | ((with_reducible apply wo_isT); rfl; rfl) | (refine ⟨Nat.le_of_ble_eq_true rfl, ?_⟩) | (with_reducible refine ⟨_, rfl, ?_⟩) | (with_reducible refine wg_nm (Nat.le_of_ble_eq_true rfl) ?_) | (refine ⟨⟨Nat.le_of_ble_eq_true rfl, Nat.le_of_ble_eq_true rfl⟩, ?_⟩) | (with_reducible refine Or.inl ⟨_, rfl, ?_⟩) | (with_reducible refine Or.inr ⟨_, rfl, ?_⟩))
    exact ⟨rfl, _, _, rfl⟩
  · rintro ρ S1 ⟨rfl, q, z, rfl⟩
    repeat (first | with_reducible (first | refine ws_seq ?_ | refine nxt_nx ?_ | refine lp_nx ?_ | refine lp_ct ?_ | refine lp_bk ?_ | refine lp_rt ?_ | refine lp_rf ?_ | refine nxt_rt ?_ | refine nxt_rf ?_ | refine nxt_bk ?_ | refine nxt_ct ?_ | refine end_nx ?_ | refine end_rt ?_ | refine end_rf ?_ | refine ws_next ?_ | refine ws_brk ?_ | refine ws_cnt ?_ | refine ws_do ?_ | refine ws_ret ?_ | refine ws_retF ?_ | refine ws_retN ?_ | refine ws_set ?_ | refine ws_acc ?_ | refine ws_par ?_ | refine ws_asg ?_ | refine ws_for ?_ | refine ws_if ?_ | refine we_2 ?_ | refine we_1 ?_ | refine we_n ?_ | refine we_3 ?_ | refine we_c ?_ | refine wo_none ?_ | refine wo_some ?_ | refine wl_cons ?_ | refine wl_nil ?_ | refine we_V ?_ | refine we_own ?_ | refine we_tup ?_ | refine wl_lst ?_ | refine wt_of ?_ | refine wt_or ?_ | refine wt_and ?_ | refine wt_not ?_ | refine we_and ?_ | refine we_or ?_ | refine we_not ?_ | refine we_if ?_ | refine we_isN ?_ | refine we_notN ?_ | refine we_chain ?_ | refine wt_yes ?_ | refine wi_L ?_ | refine wi_T ?_ | refine wi_S ?_ | refine wi_R1 ?_ | refine wi_R2 ?_ | refine wi_R3 ?_ | refine wi_E ?_ | refine we_call ?_ | refine we_callF ?_ | refine we_bm ?_ | refine wg_sb ?_ | refine we_m1 ?_ | refine we_rev ?_ | refine wo_add ?_ | refine wo_sub ?_ | refine wo_neg ?_ | refine wo_cmp ?_ | refine wo_eqI ?_ | refine wo_neI ?_ | refine wo_eqS ?_ | refine wo_neS ?_ | refine wo_eqB ?_ | refine wo_neB ?_ | refine wo_lenL ?_ | refine wo_lenT ?_ | refine wo_lenC ?_ | refine wo_max ?_ | refine wo_min ?_ | refine wo_slL ?_ | refine wo_listC ?_ | refine wo_listL ?_ | refine wo_listT ?_ | refine wo_tupT ?_ | refine wo_tupL ?_ | refine wo_intI ?_ | refine wo_intB ?_ | refine wo_strS ?_ | refine wo_inS ?_ | refine wo_ninS ?_) | ((with_reducible apply we_var); rfl) | ((with_reducible apply ws_frz); rfl) | ((with_reducible apply ws_app); rfl) | ((with_reducible apply ws_extend); rfl) | ((with_reducible apply ws_retA); rfl) | ((with_reducible apply ws_frz0); rfl) | ((with_reducible apply wo_isT); rfl; rfl) | (refine ⟨Nat.le_of_ble_eq_true rfl, ?_⟩) | (with_reducible refine ⟨_, rfl, ?_⟩) | (with_reducible refine wg_nm (Nat.le_of_ble_eq_true rfl) ?_) | (refine ⟨⟨Nat.le_of_ble_eq_true rfl, Nat.le_of_ble_eq_true rfl⟩, ?_⟩) | (with_reducible refine Or.inl ⟨_, rfl, ?_⟩) | (with_reducible refine Or.inr ⟨_, rfl, ?_⟩))
    refine wo_mul (Or.inr (by split <;> decide)) ?_
    repeat (first | with_reducible (first | refine ws_seq ?_ | refine nxt_nx ?_ | refine lp_nx ?_ | refine lp_ct ?_ | refine lp_bk ?_ | refine lp_rt ?_ | refine lp_rf ?_ | refine nxt_rt ?_ | refine nxt_rf ?_ | refine nxt_bk ?_ | refine nxt_ct ?_ | refine end_nx ?_ | refine end_rt ?_ | refine end_rf ?_ | refine ws_next ?_ | refine ws_brk ?_ | refine ws_cnt ?_ | refine ws_do ?_ | refine ws_ret ?_ | refine ws_retF ?_ | refine ws_retN ?_ | refine ws_set ?_ | refine ws_acc ?_ | refine ws_par ?_ | refine ws_asg ?_ | refine ws_for ?_ | refine ws_if ?_ | refine we_2 ?_ | refine we_1 ?_ | refine we_n ?_ | refine we_3 ?_ | refine we_c ?_ | refine wo_none ?_ | refine wo_some ?_ | refine wl_cons ?_ | refine wl_nil ?_ | refine we_V ?_ | refine we_own ?_ | refine we_tup ?_ | refine wl_lst ?_ | refine wt_of ?_ | refine wt_or ?_ | refine wt_and ?_ | refine wt_not ?_ | refine we_and ?_ | refine we_or ?_ | refine we_not ?_ | refine we_if ?_ | refine we_isN ?_ | refine we_notN ?_ | refine we_chain ?_ | refine wt_yes ?_ | refine wi_L ?_ | refine wi_T ?_ | refine wi_S ?_ | refine wi_R1 ?_ | refine wi_R2 ?_ | refine wi_R3 ?_ | refine wi_E ?_ | refine we_call ?_ | refine we_callF ?_ | refine we_bm ?_ | refine wg_sb ?_ | refine we_m1 ?_ | refine we_rev ?_ | refine wo_add ?_ | refine wo_sub ?_ | refine wo_neg ?_ | refine wo_cmp ?_ | refine wo_eqI ?_ | refine wo_neI ?_ | refine wo_eqS ?_ | refine wo_neS ?_ | refine wo_eqB ?_ | refine wo_neB ?_ | refine wo_lenL ?_ | refine wo_lenT ?_ | refine wo_lenC ?_ | refine wo_max ?_ | refine wo_min ?_ | refine wo_slL ?_ | refine wo_listC ?_ | refine wo_listL ?_ | refine wo_listT ?_ | refine wo_tupT ?_ | refine wo_tupL ?_ | refine wo_intI ?_ | refine wo_intB ?_ | refine wo_strS ?_ | refine wo_inS ?_ | refine wo_ninS ?_) | ((with_reducible apply we_var); rfl) | ((with_reducible apply ws_frz); rfl) | ((with_reducible apply ws_app); rfl) | ((with_reducible apply ws_extend); rfl) | ((with_reducible apply ws_retA); rfl) | ((with_reducible apply ws_frz0); rfl) | ((with_reducible apply wo_isT); rfl; rfl) | (refine ⟨Nat.le_of_ble_eq_true rfl, ?_⟩) | (with_reducible refine ⟨_, rfl, ?_⟩) | (with_reducible refine wg_nm (Nat.le_of_ble_eq_true rfl) ?_) | (refine ⟨⟨Nat.le_of_ble_eq_true rfl, Nat.le_of_ble_eq_true rfl⟩, ?_⟩) | (with_reducible refine Or.inl ⟨_, rfl, ?_⟩) | (with_reducible refine Or.inr ⟨_, rfl, ?_⟩))
    refine ⟨_, S1.next, rfl, ⟨Nat.lt_succ_self _, ⟨_, if_pos rfl⟩, ⟨ns, ?_, hl⟩, Nat.lt_succ_self _⟩, (Up.new _ _).trans (Up.new _ _)⟩
    refine (if_neg ?_).trans (if_pos rfl)
    exact Nat.ne_of_lt (Nat.lt_succ_self _)
/-! things that are alike -/
def bAlike (F : Fn) : EvS := (sSeq (sIf (tOf (eIsN (eVar 1))) (sRet (eIsN (eVar 0))) sNext)
  (sSeq (sIf (tOf (eN fIsT (aCons (eVar 1) (aCons (eC (.raw (.ty "bool"))) aNil)))) (sRet (eAndE (eN fIsT (aCons (eVar 0) (aCons (eC (.raw (.ty "bool"))) aNil))) (e2 fEq (eVar 0) (eVar 1)))) sNext)
  (sSeq (sIf (tOf (eN fIsT (aCons (eVar 1) (aCons (eC (.raw (.ty "int"))) aNil)))) (sRet (eAndE (eN fIsT (aCons (eVar 0) (aCons (eC (.raw (.ty "int"))) aNil))) (eAndE (eNotE (eN fIsT (aCons (eVar 0) (aCons (eC (.raw (.ty "bool"))) aNil)))) (e2 fEq (eVar 0) (eVar 1))))) sNext)
  (sSeq (sIf (tOf (eN fIsT (aCons (eVar 1) (aCons (eC (.raw (.ty "str"))) aNil)))) (sRet (eAndE (eN fIsT (aCons (eVar 0) (aCons (eC (.raw (.ty "str"))) aNil))) (e2 fEq (eVar 0) (eVar 1)))) sNext)
  (sSeq (sIf (tOrE (tOf (e2 fNe (eN fIsT (aCons (eVar 1) (aCons (eC (.raw (.ty "tuple"))) aNil))) (eN fIsT (aCons (eVar 0) (aCons (eC (.raw (.ty "tuple"))) aNil))))) (tOf (e2 fNe (eN fIsT (aCons (eVar 1) (aCons (eC (.raw (.ty "list"))) aNil))) (eN fIsT (aCons (eVar 0) (aCons (eC (.raw (.ty "list"))) aNil)))))) (sRet (eC (.bl false))) sNext)
  (sSeq (sIf (tOf (e2 fNe (eN fLen (aCons (eVar 0) aNil)) (eN fLen (aCons (eVar 1) aNil)))) (sRet (eC (.bl false))) sNext)
  (sSeq (sFor (iR1 (aCons (eN fLen (aCons (eVar 1) aNil)) aNil)) (gNm 2) (sIf (tNotE (tOf (eN (callE F) (aCons (e2 fIx (eVar 0) (eVar 2)) (aCons (e2 fIx (eVar 1) (eVar 2)) aNil))))) (sRet (eC (.bl false))) sNext))
  (sRet (eC (.bl true))))))))))
def F_alike : Nat → Fn
  | 0 => fun _ _ => none
  | n + 1 => runB 2 3 (bAlike (F_alike n))
/-- alike behind at most n looks: equal data, a list of the store like the list it holds -/
inductive Ak (S : Sto) : Nat → D → D → Prop
  | non {n} : Ak S (n + 1) .non .non
  | bl {n b} : Ak S (n + 1) (.bl b) (.bl b)
  | int {n i} : Ak S (n + 1) (.int i) (.int i)
  | str {n c} : Ak S (n + 1) (.str c) (.str c)
  | tup {n as bs} : as.length = bs.length → as.length ≤ 1000000 → (∀ (i : Nat) a b, as[i]? = some a → bs[i]? = some b → Ak S n a b) → Ak S (n + 1) (.tup as) (.tup bs)
  | lst {n a b as bs} : lstOf S a = some as → lstOf S b = some bs → as.length = bs.length → as.length ≤ 1000000 → (∀ (i : Nat) a b, as[i]? = some a → bs[i]? = some b → Ak S n a b) → Ak S (n + 1) a b
theorem lstOf_ty {S : Sto} {a : D} {as : List D} (h : lstOf S a = some as) : tyName S a = some "list" ∧ isNon a = some false ∧ seqOf S a = some as := by
  unfold lstOf at h
  split at h
  · cases h
    exact ⟨rfl, rfl, rfl⟩
  · rename_i l
    split at h
    · rename_i ds g
      cases h
      refine ⟨?_, rfl, ?_⟩
      · simp [tyName, g]
      · simp [seqOf, lstOf, g]
    · cases h
  · cases h
theorem wo_lenO {S : Sto} {a : D} {as : List D} {P : D → Sto → Prop} (h : lstOf S a = some as) (k : P (.int as.length) S) : W (fLen [a] S) P := by
  refine ⟨_, _, ?_, k⟩
  have e := (lstOf_ty h).2.2
  cases a with
  | lst ds => cases h; rfl
  | ref l => simp [fLen, e]
  | _ => cases h
theorem wo_ixO {S : Sto} {a : D} {as : List D} {i : Int} {d : D} {P : D → Sto → Prop} (h : lstOf S a = some as) (h0 : 0 ≤ i) (e : as[i.toNat]? = some d) (k : P d S) : W (fIx a (.int i) S) P := by
  refine ⟨_, _, ?_, k⟩
  have e2 := (lstOf_ty h).2.2
  cases a with
  | lst ds => simp [fIx, e2, atI_nat h0 e]
  | ref l => simp [fIx, e2, atI_nat h0 e]
  | _ => cases h
theorem alike_ok {S : Sto} : ∀ {n : Nat} {a b : D}, Ak S n a b → W (F_alike n [a, b] S) fun o S' => o = .v (.bl true) ∧ S' = S
  | 0, _, _, h => by cases h
  | n + 1, a, b, h => by
    refine w_run rfl ?_
    show WS (bAlike (F_alike n) [.val a, .val b, .no] S) _
    unfold bAlike
    cases h with
    | non =>
      repeat (first | with_reducible (first | refine ws_seq ?_ | refine nxt_nx ?_ | refine lp_nx ?_ | refine lp_ct ?_ | refine lp_bk ?_ | refine lp_rt ?_ | refine lp_rf ?_ | refine nxt_rt ?_ | refine nxt_rf ?_ | refine nxt_bk ?_ | refine nxt_ct ?_ | refine end_nx ?_ | refine end_rt ?_ | refine end_rf ?_ | refine ws_next ?_ | refine ws_brk ?_ | refine ws_cnt ?_ | refine ws_do ?_ | refine ws_ret ?_ | refine ws_retF ?_ | refine ws_retN ?_ | refine ws_set ?_ | refine ws_acc ?_ | refine ws_par ?_ | refine ws_asg ?_ | refine ws_for ?_ | refine ws_if ?_ | refine we_2 ?_ | refine we_1 ?_ | refine we_n ?_ | refine we_3 ?_ | refine we_c ?_ | refine wo_none ?_ | refine wo_some ?_ | refine wl_cons ?_ | refine wl_nil ?_ | refine we_V ?_ | refine we_own ?_ | refine we_tup ?_ | refine wl_lst ?_ | refine wt_of ?_ | refine wt_or ?_ | refine wt_and ?_ | refine wt_not ?_ | refine we_and ?_ | refine we_or ?_ | refine we_not ?_ | refine we_if ?_ | refine we_isN ?_ | refine we_notN ?_ | refine we_chain ?_ | refine wt_yes ?_ | refine wi_L ?_ | refine wi_T ?_ | refine wi_S ?_ | refine wi_R1 ?_ | refine wi_R2 ?_ | refine wi_R3 ?_ | refine wi_E ?_ | refine we_call ?_ | refine we_callF ?_ | refine we_bm ?_ | refine wg_sb ?_ | refine we_m1 ?_ | refine we_rev ?_ | refine wo_add ?_ | refine wo_sub ?_ | refine wo_neg ?_ | refine wo_cmp ?_ | refine wo_eqI ?_ | refine wo_neI ?_ | refine wo_eqS ?_ | refine wo_neS ?_ | refine wo_eqB ?_ | refine wo_neB ?_ | refine wo_lenL ?_ | refine wo_lenT ?_ | refine wo_lenC ?_ | refine wo_max ?_ | refine wo_min ?_ | refine wo_slL ?_ | refine wo_listC ?_ | refine wo_listL ?_ | refine wo_listT ?_ | refine wo_tupT ?_ | refine wo_tupL ?_ | refine wo_intI ?_ | refine wo_intB ?_ | refine wo_strS ?_ | refine wo_inS ?_ | refine wo_ninS ?_) | ((with_reducible apply we_var); rfl) | ((with_reducible apply ws_frz); rfl) | ((with_reducible apply ws_app); rfl) | ((with_reducible apply ws_extend); rfl) | ((with_reducible apply ws_retA); rfl) | ((with_reducible apply ws_frz0); rfl) | ((with_reducible apply wo_isT); rfl; rfl) | (refine ⟨Nat.le_of_ble_eq_true rfl, ?_⟩) | (with_reducible refine ⟨_, rfl, ?_⟩) | (with_reducible refine wg_nm (Nat.le_of_ble_eq_true rfl) ?_) | (refine ⟨⟨Nat.le_of_ble_eq_true rfl, Nat.le_of_ble_eq_true rfl⟩, ?_⟩) | (with_reducible refine Or.inl ⟨_, rfl, ?_⟩) | (with_reducible refine Or.inr ⟨_, rfl, ?_⟩))
      refine ⟨fun _ => ?_, fun z => nomatch z⟩
      repeat (first | with_reducible (first | refine ws_seq ?_ | refine nxt_nx ?_ | refine lp_nx ?_ | refine lp_ct ?_ | refine lp_bk ?_ | refine lp_rt ?_ | refine lp_rf ?_ | refine nxt_rt ?_ | refine nxt_rf ?_ | refine nxt_bk ?_ | refine nxt_ct ?_ | refine end_nx ?_ | refine end_rt ?_ | refine end_rf ?_ | refine ws_next ?_ | refine ws_brk ?_ | refine ws_cnt ?_ | refine ws_do ?_ | refine ws_ret ?_ | refine ws_retF ?_ | refine ws_retN ?_ | refine ws_set ?_ | refine ws_acc ?_ | refine ws_par ?_ | refine ws_asg ?_ | refine ws_for ?_ | refine ws_if ?_ | refine we_2 ?_ | refine we_1 ?_ | refine we_n ?_ | refine we_3 ?_ | refine we_c ?_ | refine wo_none ?_ | refine wo_some ?_ | refine wl_cons ?_ | refine wl_nil ?_ | refine we_V ?_ | refine we_own ?_ | refine we_tup ?_ | refine wl_lst ?_ | refine wt_of ?_ | refine wt_or ?_ | refine wt_and ?_ | refine wt_not ?_ | refine we_and ?_ | refine we_or ?_ | refine we_not ?_ | refine we_if ?_ | refine we_isN ?_ | refine we_notN ?_ | refine we_chain ?_ | refine wt_yes ?_ | refine wi_L ?_ | refine wi_T ?_ | refine wi_S ?_ | refine wi_R1 ?_ | refine wi_R2 ?_ | refine wi_R3 ?_ | refine wi_E ?_ | refine we_call ?_ | refine we_callF ?_ | refine we_bm ?_ | refine wg_sb ?_ | refine we_m1 ?_ | refine we_rev ?_ | refine wo_add ?_ | refine wo_sub ?_ | refine wo_neg ?_ | refine wo_cmp ?_ | refine wo_eqI ?_ | refine wo_neI ?_ | refine wo_eqS ?_ | refine wo_neS ?_ | refine wo_eqB ?_ | refine wo_neB ?_ | refine wo_lenL ?_ | refine wo_lenT ?_ | refine wo_lenC ?_ | refine wo_max ?_ | refine wo_min ?_ | refine wo_slL ?_ | refine wo_listC ?_ | refine wo_listL ?_ | refine wo_listT ?_ | refine wo_tupT ?_ | refine wo_tupL ?_ | refine wo_intI ?_ | refine wo_intB ?_ | refine wo_strS ?_ | refine wo_inS ?_ | refine wo_ninS ?_) | ((with_reducible apply we_var); rfl) | ((with_reducible apply ws_frz); rfl) | ((with_reducible apply ws_app); rfl) | ((with_reducible apply ws_extend); rfl) | ((with_reducible apply ws_retA); rfl) | ((with_reducible apply ws_frz0); rfl) | ((with_reducible apply wo_isT); rfl; rfl) | (refine ⟨Nat.le_of_ble_eq_true rfl, ?_⟩) | (with_reducible refine ⟨_, rfl, ?_⟩) | (with_reducible refine wg_nm (Nat.le_of_ble_eq_true rfl) ?_) | (refine ⟨⟨Nat.le_of_ble_eq_true rfl, Nat.le_of_ble_eq_true rfl⟩, ?_⟩) | (with_reducible refine Or.inl ⟨_, rfl, ?_⟩) | (with_reducible refine Or.inr ⟨_, rfl, ?_⟩))
      exact ⟨rfl, rfl⟩
    | bl =>
      repeat (first | with_reducible (first | refine ws_seq ?_ | refine nxt_nx ?_ | refine lp_nx ?_ | refine lp_ct ?_ | refine lp_bk ?_ | refine lp_rt ?_ | refine lp_rf ?_ | refine nxt_rt ?_ | refine nxt_rf ?_ | refine nxt_bk ?_ | refine nxt_ct ?_ | refine end_nx ?_ | refine end_rt ?_ | refine end_rf ?_ | refine ws_next ?_ | refine ws_brk ?_ | refine ws_cnt ?_ | refine ws_do ?_ | refine ws_ret ?_ | refine ws_retF ?_ | refine ws_retN ?_ | refine ws_set ?_ | refine ws_acc ?_ | refine ws_par ?_ | refine ws_asg ?_ | refine ws_for ?_ | refine ws_if ?_ | refine we_2 ?_ | refine we_1 ?_ | refine we_n ?_ | refine we_3 ?_ | refine we_c ?_ | refine wo_none ?_ | refine wo_some ?_ | refine wl_cons ?_ | refine wl_nil ?_ | refine we_V ?_ | refine we_own ?_ | refine we_tup ?_ | refine wl_lst ?_ | refine wt_of ?_ | refine wt_or ?_ | refine wt_and ?_ | refine wt_not ?_ | refine we_and ?_ | refine we_or ?_ | refine we_not ?_ | refine we_if ?_ | refine we_isN ?_ | refine we_notN ?_ | refine we_chain ?_ | refine wt_yes ?_ | refine wi_L ?_ | refine wi_T ?_ | refine wi_S ?_ | refine wi_R1 ?_ | refine wi_R2 ?_ | refine wi_R3 ?_ | refine wi_E ?_ | refine we_call ?_ | refine we_callF ?_ | refine we_bm ?_ | refine wg_sb ?_ | refine we_m1 ?_ | refine we_rev ?_ | refine wo_add ?_ | refine wo_sub ?_ | refine wo_neg ?_ | refine wo_cmp ?_ | refine wo_eqI ?_ | refine wo_neI ?_ | refine wo_eqS ?_ | refine wo_neS ?_ | refine wo_eqB ?_ | refine wo_neB ?_ | refine wo_lenL ?_ | refine wo_lenT ?_ | refine wo_lenC ?_ | refine wo_max ?_ | refine wo_min ?_ | refine wo_slL ?_ | refine wo_listC ?_ | refine wo_listL ?_ | refine wo_listT ?_ | refine wo_tupT ?_ | refine wo_tupL ?_ | refine wo_intI ?_ | refine wo_intB ?_ | refine wo_strS ?_ | refine wo_inS ?_ | refine wo_ninS ?_) | ((with_reducible apply we_var); rfl) | ((with_reducible apply ws_frz); rfl) | ((with_reducible apply ws_app); rfl) | ((with_reducible apply ws_extend); rfl) | ((with_reducible apply ws_retA); rfl) | ((with_reducible apply ws_frz0); rfl) | ((with_reducible apply wo_isT); rfl; rfl) | (refine ⟨Nat.le_of_ble_eq_true rfl, ?_⟩) | (with_reducible refine ⟨_, rfl, ?_⟩) | (with_reducible refine wg_nm (Nat.le_of_ble_eq_true rfl) ?_) | (refine ⟨⟨Nat.le_of_ble_eq_true rfl, Nat.le_of_ble_eq_true rfl⟩, ?_⟩) | (with_reducible refine Or.inl ⟨_, rfl, ?_⟩) | (with_reducible refine Or.inr ⟨_, rfl, ?_⟩))
      refine ⟨fun z => (nomatch z), fun _ => ?_⟩
      repeat (first | with_reducible (first | refine ws_seq ?_ | refine nxt_nx ?_ | refine lp_nx ?_ | refine lp_ct ?_ | refine lp_bk ?_ | refine lp_rt ?_ | refine lp_rf ?_ | refine nxt_rt ?_ | refine nxt_rf ?_ | refine nxt_bk ?_ | refine nxt_ct ?_ | refine end_nx ?_ | refine end_rt ?_ | refine end_rf ?_ | refine ws_next ?_ | refine ws_brk ?_ | refine ws_cnt ?_ | refine ws_do ?_ | refine ws_ret ?_ | refine ws_retF ?_ | refine ws_retN ?_ | refine ws_set ?_ | refine ws_acc ?_ | refine ws_par ?_ | refine ws_asg ?_ | refine ws_for ?_ | refine ws_if ?_ | refine we_2 ?_ | refine we_1 ?_ | refine we_n ?_ | refine we_3 ?_ | refine we_c ?_ | refine wo_none ?_ | refine wo_some ?_ | refine wl_cons ?_ | refine wl_nil ?_ | refine we_V ?_ | refine we_own ?_ | refine we_tup ?_ | refine wl_lst ?_ | refine wt_of ?_ | refine wt_or ?_ | refine wt_and ?_ | refine wt_not ?_ | refine we_and ?_ | refine we_or ?_ | refine we_not ?_ | refine we_if ?_ | refine we_isN ?_ | refine we_notN ?_ | refine we_chain ?_ | refine wt_yes ?_ | refine wi_L ?_ | refine wi_T ?_ | refine wi_S ?_ | refine wi_R1 ?_ | refine wi_R2 ?_ | refine wi_R3 ?_ | refine wi_E ?_ | refine we_call ?_ | refine we_callF ?_ | refine we_bm ?_ | refine wg_sb ?_ | refine we_m1 ?_ | refine we_rev ?_ | refine wo_add ?_ | refine wo_sub ?_ | refine wo_neg ?_ | refine wo_cmp ?_ | refine wo_eqI ?_ | refine wo_neI ?_ | refine wo_eqS ?_ | refine wo_neS ?_ | refine wo_eqB ?_ | refine wo_neB ?_ | refine wo_lenL ?_ | refine wo_lenT ?_ | refine wo_lenC ?_ | refine wo_max ?_ | refine wo_min ?_ | refine wo_slL ?_ | refine wo_listC ?_ | refine wo_listL ?_ | refine wo_listT ?_ | refine wo_tupT ?_ | refine wo_tupL ?_ | refine wo_intI ?_ | refine wo_intB ?_ | refine wo_strS ?_ | refine wo_inS ?_ | refine wo_ninS ?_) | ((with_reducible apply we_var); rfl) | ((with_reducible apply ws_frz); rfl) | ((with_reducible apply ws_app); rfl) | ((with_reducible apply ws_extend); rfl) | ((with_reducible apply ws_retA); rfl) | ((with_reducible apply ws_frz0); rfl) | ((with_reducible apply wo_isT); rfl; rfl) | (refine ⟨Nat.le_of_ble_eq_true rfl, ?_⟩) | (with_reducible refine ⟨_, rfl, ?_⟩) | (with_reducible refine wg_nm (Nat.le_of_ble_eq_true rfl) ?_) | (refine ⟨⟨Nat.le_of_ble_eq_true rfl, Nat.le_of_ble_eq_true rfl⟩, ?_⟩) | (with_reducible refine Or.inl ⟨_, rfl, ?_⟩) | (with_reducible refine Or.inr ⟨_, rfl, ?_⟩))
      refine ⟨fun _ => ?_, fun z => nomatch z⟩
      repeat (first | with_reducible (first | refine ws_seq ?_ | refine nxt_nx ?_ | refine lp_nx ?_ | refine lp_ct ?_ | refine lp_bk ?_ | refine lp_rt ?_ | refine lp_rf ?_ | refine nxt_rt ?_ | refine nxt_rf ?_ | refine nxt_bk ?_ | refine nxt_ct ?_ | refine end_nx ?_ | refine end_rt ?_ | refine end_rf ?_ | refine ws_next ?_ | refine ws_brk ?_ | refine ws_cnt ?_ | refine ws_do ?_ | refine ws_ret ?_ | refine ws_retF ?_ | refine ws_retN ?_ | refine ws_set ?_ | refine ws_acc ?_ | refine ws_par ?_ | refine ws_asg ?_ | refine ws_for ?_ | refine ws_if ?_ | refine we_2 ?_ | refine we_1 ?_ | refine we_n ?_ | refine we_3 ?_ | refine we_c ?_ | refine wo_none ?_ | refine wo_some ?_ | refine wl_cons ?_ | refine wl_nil ?_ | refine we_V ?_ | refine we_own ?_ | refine we_tup ?_ | refine wl_lst ?_ | refine wt_of ?_ | refine wt_or ?_ | refine wt_and ?_ | refine wt_not ?_ | refine we_and ?_ | refine we_or ?_ | refine we_not ?_ | refine we_if ?_ | refine we_isN ?_ | refine we_notN ?_ | refine we_chain ?_ | refine wt_yes ?_ | refine wi_L ?_ | refine wi_T ?_ | refine wi_S ?_ | refine wi_R1 ?_ | refine wi_R2 ?_ | refine wi_R3 ?_ | refine wi_E ?_ | refine we_call ?_ | refine we_callF ?_ | refine we_bm ?_ | refine wg_sb ?_ | refine we_m1 ?_ | refine we_rev ?_ | refine wo_add ?_ | refine wo_sub ?_ | refine wo_neg ?_ | refine wo_cmp ?_ | refine wo_eqI ?_ | refine wo_neI ?_ | refine wo_eqS ?_ | refine wo_neS ?_ | refine wo_eqB ?_ | refine wo_neB ?_ | refine wo_lenL ?_ | refine wo_lenT ?_ | refine wo_lenC ?_ | refine wo_max ?_ | refine wo_min ?_ | refine wo_slL ?_ | refine wo_listC ?_ | refine wo_listL ?_ | refine wo_listT ?_ | refine wo_tupT ?_ | refine wo_tupL ?_ | refine wo_intI ?_ | refine wo_intB ?_ | refine wo_strS ?_ | refine wo_inS ?_ | refine wo_ninS ?_) | ((with_reducible apply we_var); rfl) | ((with_reducible apply ws_frz); rfl) | ((with_reducible apply ws_app); rfl) | ((with_reducible apply ws_extend); rfl) | ((with_reducible apply ws_retA); rfl) | ((with_reducible apply ws_frz0); rfl) | ((with_reducible apply wo_isT); rfl; rfl) | (refine ⟨Nat.le_of_ble_eq_true rfl, ?_⟩) | (with_reducible refine ⟨_, rfl, ?_⟩) | (with_reducible refine wg_nm (Nat.le_of_ble_eq_true rfl) ?_) | (refine ⟨⟨Nat.le_of_ble_eq_true rfl, Nat.le_of_ble_eq_true rfl⟩, ?_⟩) | (with_reducible refine Or.inl ⟨_, rfl, ?_⟩) | (with_reducible refine Or.inr ⟨_, rfl, ?_⟩))
      refine ⟨fun z => (nomatch z), fun _ => ?_⟩
      repeat (first | with_reducible (first | refine ws_seq ?_ | refine nxt_nx ?_ | refine lp_nx ?_ | refine lp_ct ?_ | refine lp_bk ?_ | refine lp_rt ?_ | refine lp_rf ?_ | refine nxt_rt ?_ | refine nxt_rf ?_ | refine nxt_bk ?_ | refine nxt_ct ?_ | refine end_nx ?_ | refine end_rt ?_ | refine end_rf ?_ | refine ws_next ?_ | refine ws_brk ?_ | refine ws_cnt ?_ | refine ws_do ?_ | refine ws_ret ?_ | refine ws_retF ?_ | refine ws_retN ?_ | refine ws_set ?_ | refine ws_acc ?_ | refine ws_par ?_ | refine ws_asg ?_ | refine ws_for ?_ | refine ws_if ?_ | refine we_2 ?_ | refine we_1 ?_ | refine we_n ?_ | refine we_3 ?_ | refine we_c ?_ | refine wo_none ?_ | refine wo_some ?_ | refine wl_cons ?_ | refine wl_nil ?_ | refine we_V ?_ | refine we_own ?_ | refine we_tup ?_ | refine wl_lst ?_ | refine wt_of ?_ | refine wt_or ?_ | refine wt_and ?_ | refine wt_not ?_ | refine we_and ?_ | refine we_or ?_ | refine we_not ?_ | refine we_if ?_ | refine we_isN ?_ | refine we_notN ?_ | refine we_chain ?_ | refine wt_yes ?_ | refine wi_L ?_ | refine wi_T ?_ | refine wi_S ?_ | refine wi_R1 ?_ | refine wi_R2 ?_ | refine wi_R3 ?_ | refine wi_E ?_ | refine we_call ?_ | refine we_callF ?_ | refine we_bm ?_ | refine wg_sb ?_ | refine we_m1 ?_ | refine we_rev ?_ | refine wo_add ?_ | refine wo_sub ?_ | refine wo_neg ?_ | refine wo_cmp ?_ | refine wo_eqI ?_ | refine wo_neI ?_ | refine wo_eqS ?_ | refine wo_neS ?_ | refine wo_eqB ?_ | refine wo_neB ?_ | refine wo_lenL ?_ | refine wo_lenT ?_ | refine wo_lenC ?_ | refine wo_max ?_ | refine wo_min ?_ | refine wo_slL ?_ | refine wo_listC ?_ | refine wo_listL ?_ | refine wo_listT ?_ | refine wo_tupT ?_ | refine wo_tupL ?_ | refine wo_intI ?_ | refine wo_intB ?_ | refine wo_strS ?_ | refine wo_inS ?_ | refine wo_ninS ?_) | ((with_reducible apply we_var); rfl) | ((with_reducible apply ws_frz); rfl) | ((with_reducible apply ws_app); rfl) | ((with_reducible apply ws_extend); rfl) | ((with_reducible apply ws_retA); rfl) | ((with_reducible apply ws_frz0); rfl) | ((with_reducible apply wo_isT); rfl; rfl) | (refine ⟨Nat.le_of_ble_eq_true rfl, ?_⟩) | (with_reducible refine ⟨_, rfl, ?_⟩) | (with_reducible refine wg_nm (Nat.le_of_ble_eq_true rfl) ?_) | (refine ⟨⟨Nat.le_of_ble_eq_true rfl, Nat.le_of_ble_eq_true rfl⟩, ?_⟩) | (with_reducible refine Or.inl ⟨_, rfl, ?_⟩) | (with_reducible refine Or.inr ⟨_, rfl, ?_⟩))
      simp
    | int =>
      repeat (first | with_reducible (first | refine ws_seq ?_ | refine nxt_nx ?_ | refine lp_nx ?_ | refine lp_ct ?_ | refine lp_bk ?_ | refine lp_rt ?_ | refine lp_rf ?_ | refine nxt_rt ?_ | refine nxt_rf ?_ | refine nxt_bk ?_ | refine nxt_ct ?_ | refine end_nx ?_ | refine end_rt ?_ | refine end_rf ?_ | refine ws_next ?_ | refine ws_brk ?_ | refine ws_cnt ?_ | refine ws_do ?_ | refine ws_ret ?_ | refine ws_retF ?_ | refine ws_retN ?_ | refine ws_set ?_ | refine ws_acc ?_ | refine ws_par ?_ | refine ws_asg ?_ | refine ws_for ?_ | refine ws_if ?_ | refine we_2 ?_ | refine we_1 ?_ | refine we_n ?_ | refine we_3 ?_ | refine we_c ?_ | refine wo_none ?_ | refine wo_some ?_ | refine wl_cons ?_ | refine wl_nil ?_ | refine we_V ?_ | refine we_own ?_ | refine we_tup ?_ | refine wl_lst ?_ | refine wt_of ?_ | refine wt_or ?_ | refine wt_and ?_ | refine wt_not ?_ | refine we_and ?_ | refine we_or ?_ | refine we_not ?_ | refine we_if ?_ | refine we_isN ?_ | refine we_notN ?_ | refine we_chain ?_ | refine wt_yes ?_ | refine wi_L ?_ | refine wi_T ?_ | refine wi_S ?_ | refine wi_R1 ?_ | refine wi_R2 ?_ | refine wi_R3 ?_ | refine wi_E ?_ | refine we_call ?_ | refine we_callF ?_ | refine we_bm ?_ | refine wg_sb ?_ | refine we_m1 ?_ | refine we_rev ?_ | refine wo_add ?_ | refine wo_sub ?_ | refine wo_neg ?_ | refine wo_cmp ?_ | refine wo_eqI ?_ | refine wo_neI ?_ | refine wo_eqS ?_ | refine wo_neS ?_ | refine wo_eqB ?_ | refine wo_neB ?_ | refine wo_lenL ?_ | refine wo_lenT ?_ | refine wo_lenC ?_ | refine wo_max ?_ | refine wo_min ?_ | refine wo_slL ?_ | refine wo_listC ?_ | refine wo_listL ?_ | refine wo_listT ?_ | refine wo_tupT ?_ | refine wo_tupL ?_ | refine wo_intI ?_ | refine wo_intB ?_ | refine wo_strS ?_ | refine wo_inS ?_ | refine wo_ninS ?_) | ((with_reducible apply we_var); rfl) | ((with_reducible apply ws_frz); rfl) | ((with_reducible apply ws_app); rfl) | ((with_reducible apply ws_extend); rfl) | ((with_reducible apply ws_retA); rfl) | ((with_reducible apply ws_frz0); rfl) | ((with_reducible apply wo_isT); rfl; rfl) | (refine ⟨Nat.le_of_ble_eq_true rfl, ?_⟩) | (with_reducible refine ⟨_, rfl, ?_⟩) | (with_reducible refine wg_nm (Nat.le_of_ble_eq_true rfl) ?_) | (refine ⟨⟨Nat.le_of_ble_eq_true rfl, Nat.le_of_ble_eq_true rfl⟩, ?_⟩) | (with_reducible refine Or.inl ⟨_, rfl, ?_⟩) | (with_reducible refine Or.inr ⟨_, rfl, ?_⟩))
      refine ⟨fun z => (nomatch z), fun _ => ?_⟩
      repeat (first | with_reducible (first | refine ws_seq ?_ | refine nxt_nx ?_ | refine lp_nx ?_ | refine lp_ct ?_ | refine lp_bk ?_ | refine lp_rt ?_ | refine lp_rf ?_ | refine nxt_rt ?_ | refine nxt_rf ?_ | refine nxt_bk ?_ | refine nxt_ct ?_ | refine end_nx ?_ | refine end_rt ?_ | refine end_rf ?_ | refine ws_next ?_ | refine ws_brk ?_ | refine ws_cnt ?_ | refine ws_do ?_ | refine ws_ret ?_ | refine ws_retF ?_ | refine ws_retN ?_ | refine ws_set ?_ | refine ws_acc ?_ | refine ws_par ?_ | refine ws_asg ?_ | refine ws_for ?_ | refine ws_if ?_ | refine we_2 ?_ | refine we_1 ?_ | refine we_n ?_ | refine we_3 ?_ | refine we_c ?_ | refine wo_none ?_ | refine wo_some ?_ | refine wl_cons ?_ | refine wl_nil ?_ | refine we_V ?_ | refine we_own ?_ | refine we_tup ?_ | refine wl_lst ?_ | refine wt_of ?_ | refine wt_or ?_ | refine wt_and ?_ | refine wt_not ?_ | refine we_and ?_ | refine we_or ?_ | refine we_not ?_ | refine we_if ?_ | refine we_isN ?_ | refine we_notN ?_ | refine we_chain ?_ | refine wt_yes ?_ | refine wi_L ?_ | refine wi_T ?_ | refine wi_S ?_ | refine wi_R1 ?_ | refine wi_R2 ?_ | refine wi_R3 ?_ | refine wi_E ?_ | refine we_call ?_ | refine we_callF ?_ | refine we_bm ?_ | refine wg_sb ?_ | refine we_m1 ?_ | refine we_rev ?_ | refine wo_add ?_ | refine wo_sub ?_ | refine wo_neg ?_ | refine wo_cmp ?_ | refine wo_eqI ?_ | refine wo_neI ?_ | refine wo_eqS ?_ | refine wo_neS ?_ | refine wo_eqB ?_ | refine wo_neB ?_ | refine wo_lenL ?_ | refine wo_lenT ?_ | refine wo_lenC ?_ | refine wo_max ?_ | refine wo_min ?_ | refine wo_slL ?_ | refine wo_listC ?_ | refine wo_listL ?_ | refine wo_listT ?_ | refine wo_tupT ?_ | refine wo_tupL ?_ | refine wo_intI ?_ | refine wo_intB ?_ | refine wo_strS ?_ | refine wo_inS ?_ | refine wo_ninS ?_) | ((with_reducible apply we_var); rfl) | ((with_reducible apply ws_frz); rfl) | ((with_reducible apply ws_app); rfl) | ((with_reducible apply ws_extend); rfl) | ((with_reducible apply ws_retA); rfl) | ((with_reducible apply ws_frz0); rfl) | ((with_reducible apply wo_isT); rfl; rfl) | (refine ⟨Nat.le_of_ble_eq_true rfl, ?_⟩) | (with_reducible refine ⟨_, rfl, ?_⟩) | (with_reducible refine wg_nm (Nat.le_of_ble_eq_true rfl) ?_) | (refine ⟨⟨Nat.le_of_ble_eq_true rfl, Nat.le_of_ble_eq_true rfl⟩, ?_⟩) | (with_reducible refine Or.inl ⟨_, rfl, ?_⟩) | (with_reducible refine Or.inr ⟨_, rfl, ?_⟩))
      refine ⟨fun z => (nomatch z), fun _ => ?_⟩
      repeat (first | with_reducible (first | refine ws_seq ?_ | refine nxt_nx ?_ | refine lp_nx ?_ | refine lp_ct ?_ | refine lp_bk ?_ | refine lp_rt ?_ | refine lp_rf ?_ | refine nxt_rt ?_ | refine nxt_rf ?_ | refine nxt_bk ?_ | refine nxt_ct ?_ | refine end_nx ?_ | refine end_rt ?_ | refine end_rf ?_ | refine ws_next ?_ | refine ws_brk ?_ | refine ws_cnt ?_ | refine ws_do ?_ | refine ws_ret ?_ | refine ws_retF ?_ | refine ws_retN ?_ | refine ws_set ?_ | refine ws_acc ?_ | refine ws_par ?_ | refine ws_asg ?_ | refine ws_for ?_ | refine ws_if ?_ | refine we_2 ?_ | refine we_1 ?_ | refine we_n ?_ | refine we_3 ?_ | refine we_c ?_ | refine wo_none ?_ | refine wo_some ?_ | refine wl_cons ?_ | refine wl_nil ?_ | refine we_V ?_ | refine we_own ?_ | refine we_tup ?_ | refine wl_lst ?_ | refine wt_of ?_ | refine wt_or ?_ | refine wt_and ?_ | refine wt_not ?_ | refine we_and ?_ | refine we_or ?_ | refine we_not ?_ | refine we_if ?_ | refine we_isN ?_ | refine we_notN ?_ | refine we_chain ?_ | refine wt_yes ?_ | refine wi_L ?_ | refine wi_T ?_ | refine wi_S ?_ | refine wi_R1 ?_ | refine wi_R2 ?_ | refine wi_R3 ?_ | refine wi_E ?_ | refine we_call ?_ | refine we_callF ?_ | refine we_bm ?_ | refine wg_sb ?_ | refine we_m1 ?_ | refine we_rev ?_ | refine wo_add ?_ | refine wo_sub ?_ | refine wo_neg ?_ | refine wo_cmp ?_ | refine wo_eqI ?_ | refine wo_neI ?_ | refine wo_eqS ?_ | refine wo_neS ?_ | refine wo_eqB ?_ | refine wo_neB ?_ | refine wo_lenL ?_ | refine wo_lenT ?_ | refine wo_lenC ?_ | refine wo_max ?_ | refine wo_min ?_ | refine wo_slL ?_ | refine wo_listC ?_ | refine wo_listL ?_ | refine wo_listT ?_ | refine wo_tupT ?_ | refine wo_tupL ?_ | refine wo_intI ?_ | refine wo_intB ?_ | refine wo_strS ?_ | refine wo_inS ?_ | refine wo_ninS ?_) | ((with_reducible apply we_var); rfl) | ((with_reducible apply ws_frz); rfl) | ((with_reducible apply ws_app); rfl) | ((with_reducible apply ws_extend); rfl) | ((with_reducible apply ws_retA); rfl) | ((with_reducible apply ws_frz0); rfl) | ((with_reducible apply wo_isT); rfl; rfl) | (refine ⟨Nat.le_of_ble_eq_true rfl, ?_⟩) | (with_reducible refine ⟨_, rfl, ?_⟩) | (with_reducible refine wg_nm (Nat.le_of_ble_eq_true rfl) ?_) | (refine ⟨⟨Nat.le_of_ble_eq_true rfl, Nat.le_of_ble_eq_true rfl⟩, ?_⟩) | (with_reducible refine Or.inl ⟨_, rfl, ?_⟩) | (with_reducible refine Or.inr ⟨_, rfl, ?_⟩))
      refine ⟨fun _ => ?_, fun z => nomatch z⟩
      repeat (first | with_reducible (first | refine ws_seq ?_ | refine nxt_nx ?_ | refine lp_nx ?_ | refine lp_ct ?_ | refine lp_bk ?_ | refine lp_rt ?_ | refine lp_rf ?_ | refine nxt_rt ?_ | refine nxt_rf ?_ | refine nxt_bk ?_ | refine nxt_ct ?_ | refine end_nx ?_ | refine end_rt ?_ | refine end_rf ?_ | refine ws_next ?_ | refine ws_brk ?_ | refine ws_cnt ?_ | refine ws_do ?_ | refine ws_ret ?_ | refine ws_retF ?_ | refine ws_retN ?_ | refine ws_set ?_ | refine ws_acc ?_ | refine ws_par ?_ | refine ws_asg ?_ | refine ws_for ?_ | refine ws_if ?_ | refine we_2 ?_ | refine we_1 ?_ | refine we_n ?_ | refine we_3 ?_ | refine we_c ?_ | refine wo_none ?_ | refine wo_some ?_ | refine wl_cons ?_ | refine wl_nil ?_ | refine we_V ?_ | refine we_own ?_ | refine we_tup ?_ | refine wl_lst ?_ | refine wt_of ?_ | refine wt_or ?_ | refine wt_and ?_ | refine wt_not ?_ | refine we_and ?_ | refine we_or ?_ | refine we_not ?_ | refine we_if ?_ | refine we_isN ?_ | refine we_notN ?_ | refine we_chain ?_ | refine wt_yes ?_ | refine wi_L ?_ | refine wi_T ?_ | refine wi_S ?_ | refine wi_R1 ?_ | refine wi_R2 ?_ | refine wi_R3 ?_ | refine wi_E ?_ | refine we_call ?_ | refine we_callF ?_ | refine we_bm ?_ | refine wg_sb ?_ | refine we_m1 ?_ | refine we_rev ?_ | refine wo_add ?_ | refine wo_sub ?_ | refine wo_neg ?_ | refine wo_cmp ?_ | refine wo_eqI ?_ | refine wo_neI ?_ | refine wo_eqS ?_ | refine wo_neS ?_ | refine wo_eqB ?_ | refine wo_neB ?_ | refine wo_lenL ?_ | refine wo_lenT ?_ | refine wo_lenC ?_ | refine wo_max ?_ | refine wo_min ?_ | refine wo_slL ?_ | refine wo_listC ?_ | refine wo_listL ?_ | refine wo_listT ?_ | refine wo_tupT ?_ | refine wo_tupL ?_ | refine wo_intI ?_ | refine wo_intB ?_ | refine wo_strS ?_ | refine wo_inS ?_ | refine wo_ninS ?_) | ((with_reducible apply we_var); rfl) | ((with_reducible apply ws_frz); rfl) | ((with_reducible apply ws_app); rfl) | ((with_reducible apply ws_extend); rfl) | ((with_reducible apply ws_retA); rfl) | ((with_reducible apply ws_frz0); rfl) | ((with_reducible apply wo_isT); rfl; rfl) | (refine ⟨Nat.le_of_ble_eq_true rfl, ?_⟩) | (with_reducible refine ⟨_, rfl, ?_⟩) | (with_reducible refine wg_nm (Nat.le_of_ble_eq_true rfl) ?_) | (refine ⟨⟨Nat.le_of_ble_eq_true rfl, Nat.le_of_ble_eq_true rfl⟩, ?_⟩) | (with_reducible refine Or.inl ⟨_, rfl, ?_⟩) | (with_reducible refine Or.inr ⟨_, rfl, ?_⟩))
      refine ⟨fun z => (nomatch z), fun _ => ?_⟩
      repeat (first | with_reducible (first | refine ws_seq ?_ | refine nxt_nx ?_ | refine lp_nx ?_ | refine lp_ct ?_ | refine lp_bk ?_ | refine lp_rt ?_ | refine lp_rf ?_ | refine nxt_rt ?_ | refine nxt_rf ?_ | refine nxt_bk ?_ | refine nxt_ct ?_ | refine end_nx ?_ | refine end_rt ?_ | refine end_rf ?_ | refine ws_next ?_ | refine ws_brk ?_ | refine ws_cnt ?_ | refine ws_do ?_ | refine ws_ret ?_ | refine ws_retF ?_ | refine ws_retN ?_ | refine ws_set ?_ | refine ws_acc ?_ | refine ws_par ?_ | refine ws_asg ?_ | refine ws_for ?_ | refine ws_if ?_ | refine we_2 ?_ | refine we_1 ?_ | refine we_n ?_ | refine we_3 ?_ | refine we_c ?_ | refine wo_none ?_ | refine wo_some ?_ | refine wl_cons ?_ | refine wl_nil ?_ | refine we_V ?_ | refine we_own ?_ | refine we_tup ?_ | refine wl_lst ?_ | refine wt_of ?_ | refine wt_or ?_ | refine wt_and ?_ | refine wt_not ?_ | refine we_and ?_ | refine we_or ?_ | refine we_not ?_ | refine we_if ?_ | refine we_isN ?_ | refine we_notN ?_ | refine we_chain ?_ | refine wt_yes ?_ | refine wi_L ?_ | refine wi_T ?_ | refine wi_S ?_ | refine wi_R1 ?_ | refine wi_R2 ?_ | refine wi_R3 ?_ | refine wi_E ?_ | refine we_call ?_ | refine we_callF ?_ | refine we_bm ?_ | refine wg_sb ?_ | refine we_m1 ?_ | refine we_rev ?_ | refine wo_add ?_ | refine wo_sub ?_ | refine wo_neg ?_ | refine wo_cmp ?_ | refine wo_eqI ?_ | refine wo_neI ?_ | refine wo_eqS ?_ | refine wo_neS ?_ | refine wo_eqB ?_ | refine wo_neB ?_ | refine wo_lenL ?_ | refine wo_lenT ?_ | refine wo_lenC ?_ | refine wo_max ?_ | refine wo_min ?_ | refine wo_slL ?_ | refine wo_listC ?_ | refine wo_listL ?_ | refine wo_listT ?_ | refine wo_tupT ?_ | refine wo_tupL ?_ | refine wo_intI ?_ | refine wo_intB ?_ | refine wo_strS ?_ | refine wo_inS ?_ | refine wo_ninS ?_) | ((with_reducible apply we_var); rfl) | ((with_reducible apply ws_frz); rfl) | ((with_reducible apply ws_app); rfl) | ((with_reducible apply ws_extend); rfl) | ((with_reducible apply ws_retA); rfl) | ((with_reducible apply ws_frz0); rfl) | ((with_reducible apply wo_isT); rfl; rfl) | (refine ⟨Nat.le_of_ble_eq_true rfl, ?_⟩) | (with_reducible refine ⟨_, rfl, ?_⟩) | (with_reducible refine wg_nm (Nat.le_of_ble_eq_true rfl) ?_) | (refine ⟨⟨Nat.le_of_ble_eq_true rfl, Nat.le_of_ble_eq_true rfl⟩, ?_⟩) | (with_reducible refine Or.inl ⟨_, rfl, ?_⟩) | (with_reducible refine Or.inr ⟨_, rfl, ?_⟩))
      refine ⟨fun z => (nomatch z), fun _ => ?_⟩
      repeat (first | with_reducible (first | refine ws_seq ?_ | refine nxt_nx ?_ | refine lp_nx ?_ | refine lp_ct ?_ | refine lp_bk ?_ | refine lp_rt ?_ | refine lp_rf ?_ | refine nxt_rt ?_ | refine nxt_rf ?_ | refine nxt_bk ?_ | refine nxt_ct ?_ | refine end_nx ?_ | refine end_rt ?_ | refine end_rf ?_ | refine ws_next ?_ | refine ws_brk ?_ | refine ws_cnt ?_ | refine ws_do ?_ | refine ws_ret ?_ | refine ws_retF ?_ | refine ws_retN ?_ | refine ws_set ?_ | refine ws_acc ?_ | refine ws_par ?_ | refine ws_asg ?_ | refine ws_for ?_ | refine ws_if ?_ | refine we_2 ?_ | refine we_1 ?_ | refine we_n ?_ | refine we_3 ?_ | refine we_c ?_ | refine wo_none ?_ | refine wo_some ?_ | refine wl_cons ?_ | refine wl_nil ?_ | refine we_V ?_ | refine we_own ?_ | refine we_tup ?_ | refine wl_lst ?_ | refine wt_of ?_ | refine wt_or ?_ | refine wt_and ?_ | refine wt_not ?_ | refine we_and ?_ | refine we_or ?_ | refine we_not ?_ | refine we_if ?_ | refine we_isN ?_ | refine we_notN ?_ | refine we_chain ?_ | refine wt_yes ?_ | refine wi_L ?_ | refine wi_T ?_ | refine wi_S ?_ | refine wi_R1 ?_ | refine wi_R2 ?_ | refine wi_R3 ?_ | refine wi_E ?_ | refine we_call ?_ | refine we_callF ?_ | refine we_bm ?_ | refine wg_sb ?_ | refine we_m1 ?_ | refine we_rev ?_ | refine wo_add ?_ | refine wo_sub ?_ | refine wo_neg ?_ | refine wo_cmp ?_ | refine wo_eqI ?_ | refine wo_neI ?_ | refine wo_eqS ?_ | refine wo_neS ?_ | refine wo_eqB ?_ | refine wo_neB ?_ | refine wo_lenL ?_ | refine wo_lenT ?_ | refine wo_lenC ?_ | refine wo_max ?_ | refine wo_min ?_ | refine wo_slL ?_ | refine wo_listC ?_ | refine wo_listL ?_ | refine wo_listT ?_ | refine wo_tupT ?_ | refine wo_tupL ?_ | refine wo_intI ?_ | refine wo_intB ?_ | refine wo_strS ?_ | refine wo_inS ?_ | refine wo_ninS ?_) | ((with_reducible apply we_var); rfl) | ((with_reducible apply ws_frz); rfl) | ((with_reducible apply ws_app); rfl) | ((with_reducible apply ws_extend); rfl) | ((with_reducible apply ws_retA); rfl) | ((with_reducible apply ws_frz0); rfl) | ((with_reducible apply wo_isT); rfl; rfl) | (refine ⟨Nat.le_of_ble_eq_true rfl, ?_⟩) | (with_reducible refine ⟨_, rfl, ?_⟩) | (with_reducible refine wg_nm (Nat.le_of_ble_eq_true rfl) ?_) | (refine ⟨⟨Nat.le_of_ble_eq_true rfl, Nat.le_of_ble_eq_true rfl⟩, ?_⟩) | (with_reducible refine Or.inl ⟨_, rfl, ?_⟩) | (with_reducible refine Or.inr ⟨_, rfl, ?_⟩))
      simp
    | str =>
      repeat (first | with_reducible (first | refine ws_seq ?_ | refine nxt_nx ?_ | refine lp_nx ?_ | refine lp_ct ?_ | refine lp_bk ?_ | refine lp_rt ?_ | refine lp_rf ?_ | refine nxt_rt ?_ | refine nxt_rf ?_ | refine nxt_bk ?_ | refine nxt_ct ?_ | refine end_nx ?_ | refine end_rt ?_ | refine end_rf ?_ | refine ws_next ?_ | refine ws_brk ?_ | refine ws_cnt ?_ | refine ws_do ?_ | refine ws_ret ?_ | refine ws_retF ?_ | refine ws_retN ?_ | refine ws_set ?_ | refine ws_acc ?_ | refine ws_par ?_ | refine ws_asg ?_ | refine ws_for ?_ | refine ws_if ?_ | refine we_2 ?_ | refine we_1 ?_ | refine we_n ?_ | refine we_3 ?_ | refine we_c ?_ | refine wo_none ?_ | refine wo_some ?_ | refine wl_cons ?_ | refine wl_nil ?_ | refine we_V ?_ | refine we_own ?_ | refine we_tup ?_ | refine wl_lst ?_ | refine wt_of ?_ | refine wt_or ?_ | refine wt_and ?_ | refine wt_not ?_ | refine we_and ?_ | refine we_or ?_ | refine we_not ?_ | refine we_if ?_ | refine we_isN ?_ | refine we_notN ?_ | refine we_chain ?_ | refine wt_yes ?_ | refine wi_L ?_ | refine wi_T ?_ | refine wi_S ?_ | refine wi_R1 ?_ | refine wi_R2 ?_ | refine wi_R3 ?_ | refine wi_E ?_ | refine we_call ?_ | refine we_callF ?_ | refine we_bm ?_ | refine wg_sb ?_ | refine we_m1 ?_ | refine we_rev ?_ | refine wo_add ?_ | refine wo_sub ?_ | refine wo_neg ?_ | refine wo_cmp ?_ | refine wo_eqI ?_ | refine wo_neI ?_ | refine wo_eqS ?_ | refine wo_neS ?_ | refine wo_eqB ?_ | refine wo_neB ?_ | refine wo_lenL ?_ | refine wo_lenT ?_ | refine wo_lenC ?_ | refine wo_max ?_ | refine wo_min ?_ | refine wo_slL ?_ | refine wo_listC ?_ | refine wo_listL ?_ | refine wo_listT ?_ | refine wo_tupT ?_ | refine wo_tupL ?_ | refine wo_intI ?_ | refine wo_intB ?_ | refine wo_strS ?_ | refine wo_inS ?_ | refine wo_ninS ?_) | ((with_reducible apply we_var); rfl) | ((with_reducible apply ws_frz); rfl) | ((with_reducible apply ws_app); rfl) | ((with_reducible apply ws_extend); rfl) | ((with_reducible apply ws_retA); rfl) | ((with_reducible apply ws_frz0); rfl) | ((with_reducible apply wo_isT); rfl; rfl) | (refine ⟨Nat.le_of_ble_eq_true rfl, ?_⟩) | (with_reducible refine ⟨_, rfl, ?_⟩) | (with_reducible refine wg_nm (Nat.le_of_ble_eq_true rfl) ?_) | (refine ⟨⟨Nat.le_of_ble_eq_true rfl, Nat.le_of_ble_eq_true rfl⟩, ?_⟩) | (with_reducible refine Or.inl ⟨_, rfl, ?_⟩) | (with_reducible refine Or.inr ⟨_, rfl, ?_⟩))
      refine ⟨fun z => (nomatch z), fun _ => ?_⟩
      repeat (first | with_reducible (first | refine ws_seq ?_ | refine nxt_nx ?_ | refine lp_nx ?_ | refine lp_ct ?_ | refine lp_bk ?_ | refine lp_rt ?_ | refine lp_rf ?_ | refine nxt_rt ?_ | refine nxt_rf ?_ | refine nxt_bk ?_ | refine nxt_ct ?_ | refine end_nx ?_ | refine end_rt ?_ | refine end_rf ?_ | refine ws_next ?_ | refine ws_brk ?_ | refine ws_cnt ?_ | refine ws_do ?_ | refine ws_ret ?_ | refine ws_retF ?_ | refine ws_retN ?_ | refine ws_set ?_ | refine ws_acc ?_ | refine ws_par ?_ | refine ws_asg ?_ | refine ws_for ?_ | refine ws_if ?_ | refine we_2 ?_ | refine we_1 ?_ | refine we_n ?_ | refine we_3 ?_ | refine we_c ?_ | refine wo_none ?_ | refine wo_some ?_ | refine wl_cons ?_ | refine wl_nil ?_ | refine we_V ?_ | refine we_own ?_ | refine we_tup ?_ | refine wl_lst ?_ | refine wt_of ?_ | refine wt_or ?_ | refine wt_and ?_ | refine wt_not ?_ | refine we_and ?_ | refine we_or ?_ | refine we_not ?_ | refine we_if ?_ | refine we_isN ?_ | refine we_notN ?_ | refine we_chain ?_ | refine wt_yes ?_ | refine wi_L ?_ | refine wi_T ?_ | refine wi_S ?_ | refine wi_R1 ?_ | refine wi_R2 ?_ | refine wi_R3 ?_ | refine wi_E ?_ | refine we_call ?_ | refine we_callF ?_ | refine we_bm ?_ | refine wg_sb ?_ | refine we_m1 ?_ | refine we_rev ?_ | refine wo_add ?_ | refine wo_sub ?_ | refine wo_neg ?_ | refine wo_cmp ?_ | refine wo_eqI ?_ | refine wo_neI ?_ | refine wo_eqS ?_ | refine wo_neS ?_ | refine wo_eqB ?_ | refine wo_neB ?_ | refine wo_lenL ?_ | refine wo_lenT ?_ | refine wo_lenC ?_ | refine wo_max ?_ | refine wo_min ?_ | refine wo_slL ?_ | refine wo_listC ?_ | refine wo_listL ?_ | refine wo_listT ?_ | refine wo_tupT ?_ | refine wo_tupL ?_ | refine wo_intI ?_ | refine wo_intB ?_ | refine wo_strS ?_ | refine wo_inS ?_ | refine wo_ninS ?_) | ((with_reducible apply we_var); rfl) | ((with_reducible apply ws_frz); rfl) | ((with_reducible apply ws_app); rfl) | ((with_reducible apply ws_extend); rfl) | ((with_reducible apply ws_retA); rfl) | ((with_reducible apply ws_frz0); rfl) | ((with_reducible apply wo_isT); rfl; rfl) | (refine ⟨Nat.le_of_ble_eq_true rfl, ?_⟩) | (with_reducible refine ⟨_, rfl, ?_⟩) | (with_reducible refine wg_nm (Nat.le_of_ble_eq_true rfl) ?_) | (refine ⟨⟨Nat.le_of_ble_eq_true rfl, Nat.le_of_ble_eq_true rfl⟩, ?_⟩) | (with_reducible refine Or.inl ⟨_, rfl, ?_⟩) | (with_reducible refine Or.inr ⟨_, rfl, ?_⟩))
      refine ⟨fun z => (nomatch z), fun _ => ?_⟩
      repeat (first | with_reducible (first | refine ws_seq ?_ | refine nxt_nx ?_ | refine lp_nx ?_ | refine lp_ct ?_ | refine lp_bk ?_ | refine lp_rt ?_ | refine lp_rf ?_ | refine nxt_rt ?_ | refine nxt_rf ?_ | refine nxt_bk ?_ | refine nxt_ct ?_ | refine end_nx ?_ | refine end_rt ?_ | refine end_rf ?_ | refine ws_next ?_ | refine ws_brk ?_ | refine ws_cnt ?_ | refine ws_do ?_ | refine ws_ret ?_ | refine ws_retF ?_ | refine ws_retN ?_ | refine ws_set ?_ | refine ws_acc ?_ | refine ws_par ?_ | refine ws_asg ?_ | refine ws_for ?_ | refine ws_if ?_ | refine we_2 ?_ | refine we_1 ?_ | refine we_n ?_ | refine we_3 ?_ | refine we_c ?_ | refine wo_none ?_ | refine wo_some ?_ | refine wl_cons ?_ | refine wl_nil ?_ | refine we_V ?_ | refine we_own ?_ | refine we_tup ?_ | refine wl_lst ?_ | refine wt_of ?_ | refine wt_or ?_ | refine wt_and ?_ | refine wt_not ?_ | refine we_and ?_ | refine we_or ?_ | refine we_not ?_ | refine we_if ?_ | refine we_isN ?_ | refine we_notN ?_ | refine we_chain ?_ | refine wt_yes ?_ | refine wi_L ?_ | refine wi_T ?_ | refine wi_S ?_ | refine wi_R1 ?_ | refine wi_R2 ?_ | refine wi_R3 ?_ | refine wi_E ?_ | refine we_call ?_ | refine we_callF ?_ | refine we_bm ?_ | refine wg_sb ?_ | refine we_m1 ?_ | refine we_rev ?_ | refine wo_add ?_ | refine wo_sub ?_ | refine wo_neg ?_ | refine wo_cmp ?_ | refine wo_eqI ?_ | refine wo_neI ?_ | refine wo_eqS ?_ | refine wo_neS ?_ | refine wo_eqB ?_ | refine wo_neB ?_ | refine wo_lenL ?_ | refine wo_lenT ?_ | refine wo_lenC ?_ | refine wo_max ?_ | refine wo_min ?_ | refine wo_slL ?_ | refine wo_listC ?_ | refine wo_listL ?_ | refine wo_listT ?_ | refine wo_tupT ?_ | refine wo_tupL ?_ | refine wo_intI ?_ | refine wo_intB ?_ | refine wo_strS ?_ | refine wo_inS ?_ | refine wo_ninS ?_) | ((with_reducible apply we_var); rfl) | ((with_reducible apply ws_frz); rfl) | ((with_reducible apply ws_app); rfl) | ((with_reducible apply ws_extend); rfl) | ((with_reducible apply ws_retA); rfl) | ((with_reducible apply ws_frz0); rfl) | ((with_reducible apply wo_isT); rfl; rfl) | (refine ⟨Nat.le_of_ble_eq_true rfl, ?_⟩) | (with_reducible refine ⟨_, rfl, ?_⟩) | (with_reducible refine wg_nm (Nat.le_of_ble_eq_true rfl) ?_) | (refine ⟨⟨Nat.le_of_ble_eq_true rfl, Nat.le_of_ble_eq_true rfl⟩, ?_⟩) | (with_reducible refine Or.inl ⟨_, rfl, ?_⟩) | (with_reducible refine Or.inr ⟨_, rfl, ?_⟩))
      refine ⟨fun z => (nomatch z), fun _ => ?_⟩
      repeat (first | with_reducible (first | refine ws_seq ?_ | refine nxt_nx ?_ | refine lp_nx ?_ | refine lp_ct ?_ | refine lp_bk ?_ | refine lp_rt ?_ | refine lp_rf ?_ | refine nxt_rt ?_ | refine nxt_rf ?_ | refine nxt_bk ?_ | refine nxt_ct ?_ | refine end_nx ?_ | refine end_rt ?_ | refine end_rf ?_ | refine ws_next ?_ | refine ws_brk ?_ | refine ws_cnt ?_ | refine ws_do ?_ | refine ws_ret ?_ | refine ws_retF ?_ | refine ws_retN ?_ | refine ws_set ?_ | refine ws_acc ?_ | refine ws_par ?_ | refine ws_asg ?_ | refine ws_for ?_ | refine ws_if ?_ | refine we_2 ?_ | refine we_1 ?_ | refine we_n ?_ | refine we_3 ?_ | refine we_c ?_ | refine wo_none ?_ | refine wo_some ?_ | refine wl_cons ?_ | refine wl_nil ?_ | refine we_V ?_ | refine we_own ?_ | refine we_tup ?_ | refine wl_lst ?_ | refine wt_of ?_ | refine wt_or ?_ | refine wt_and ?_ | refine wt_not ?_ | refine we_and ?_ | refine we_or ?_ | refine we_not ?_ | refine we_if ?_ | refine we_isN ?_ | refine we_notN ?_ | refine we_chain ?_ | refine wt_yes ?_ | refine wi_L ?_ | refine wi_T ?_ | refine wi_S ?_ | refine wi_R1 ?_ | refine wi_R2 ?_ | refine wi_R3 ?_ | refine wi_E ?_ | refine we_call ?_ | refine we_callF ?_ | refine we_bm ?_ | refine wg_sb ?_ | refine we_m1 ?_ | refine we_rev ?_ | refine wo_add ?_ | refine wo_sub ?_ | refine wo_neg ?_ | refine wo_cmp ?_ | refine wo_eqI ?_ | refine wo_neI ?_ | refine wo_eqS ?_ | refine wo_neS ?_ | refine wo_eqB ?_ | refine wo_neB ?_ | refine wo_lenL ?_ | refine wo_lenT ?_ | refine wo_lenC ?_ | refine wo_max ?_ | refine wo_min ?_ | refine wo_slL ?_ | refine wo_listC ?_ | refine wo_listL ?_ | refine wo_listT ?_ | refine wo_tupT ?_ | refine wo_tupL ?_ | refine wo_intI ?_ | refine wo_intB ?_ | refine wo_strS ?_ | refine wo_inS ?_ | refine wo_ninS ?_) | ((with_reducible apply we_var); rfl) | ((with_reducible apply ws_frz); rfl) | ((with_reducible apply ws_app); rfl) | ((with_reducible apply ws_extend); rfl) | ((with_reducible apply ws_retA); rfl) | ((with_reducible apply ws_frz0); rfl) | ((with_reducible apply wo_isT); rfl; rfl) | (refine ⟨Nat.le_of_ble_eq_true rfl, ?_⟩) | (with_reducible refine ⟨_, rfl, ?_⟩) | (with_reducible refine wg_nm (Nat.le_of_ble_eq_true rfl) ?_) | (refine ⟨⟨Nat.le_of_ble_eq_true rfl, Nat.le_of_ble_eq_true rfl⟩, ?_⟩) | (with_reducible refine Or.inl ⟨_, rfl, ?_⟩) | (with_reducible refine Or.inr ⟨_, rfl, ?_⟩))
      refine ⟨fun _ => ?_, fun z => nomatch z⟩
      repeat (first | with_reducible (first | refine ws_seq ?_ | refine nxt_nx ?_ | refine lp_nx ?_ | refine lp_ct ?_ | refine lp_bk ?_ | refine lp_rt ?_ | refine lp_rf ?_ | refine nxt_rt ?_ | refine nxt_rf ?_ | refine nxt_bk ?_ | refine nxt_ct ?_ | refine end_nx ?_ | refine end_rt ?_ | refine end_rf ?_ | refine ws_next ?_ | refine ws_brk ?_ | refine ws_cnt ?_ | refine ws_do ?_ | refine ws_ret ?_ | refine ws_retF ?_ | refine ws_retN ?_ | refine ws_set ?_ | refine ws_acc ?_ | refine ws_par ?_ | refine ws_asg ?_ | refine ws_for ?_ | refine ws_if ?_ | refine we_2 ?_ | refine we_1 ?_ | refine we_n ?_ | refine we_3 ?_ | refine we_c ?_ | refine wo_none ?_ | refine wo_some ?_ | refine wl_cons ?_ | refine wl_nil ?_ | refine we_V ?_ | refine we_own ?_ | refine we_tup ?_ | refine wl_lst ?_ | refine wt_of ?_ | refine wt_or ?_ | refine wt_and ?_ | refine wt_not ?_ | refine we_and ?_ | refine we_or ?_ | refine we_not ?_ | refine we_if ?_ | refine we_isN ?_ | refine we_notN ?_ | refine we_chain ?_ | refine wt_yes ?_ | refine wi_L ?_ | refine wi_T ?_ | refine wi_S ?_ | refine wi_R1 ?_ | refine wi_R2 ?_ | refine wi_R3 ?_ | refine wi_E ?_ | refine we_call ?_ | refine we_callF ?_ | refine we_bm ?_ | refine wg_sb ?_ | refine we_m1 ?_ | refine we_rev ?_ | refine wo_add ?_ | refine wo_sub ?_ | refine wo_neg ?_ | refine wo_cmp ?_ | refine wo_eqI ?_ | refine wo_neI ?_ | refine wo_eqS ?_ | refine wo_neS ?_ | refine wo_eqB ?_ | refine wo_neB ?_ | refine wo_lenL ?_ | refine wo_lenT ?_ | refine wo_lenC ?_ | refine wo_max ?_ | refine wo_min ?_ | refine wo_slL ?_ | refine wo_listC ?_ | refine wo_listL ?_ | refine wo_listT ?_ | refine wo_tupT ?_ | refine wo_tupL ?_ | refine wo_intI ?_ | refine wo_intB ?_ | refine wo_strS ?_ | refine wo_inS ?_ | refine wo_ninS ?_) | ((with_reducible apply we_var); rfl) | ((with_reducible apply ws_frz); rfl) | ((with_reducible apply ws_app); rfl) | ((with_reducible apply ws_extend); rfl) | ((with_reducible apply ws_retA); rfl) | ((with_reducible apply ws_frz0); rfl) | ((with_reducible apply wo_isT); rfl; rfl) | (refine ⟨Nat.le_of_ble_eq_true rfl, ?_⟩) | (with_reducible refine ⟨_, rfl, ?_⟩) | (with_reducible refine wg_nm (Nat.le_of_ble_eq_true rfl) ?_) | (refine ⟨⟨Nat.le_of_ble_eq_true rfl, Nat.le_of_ble_eq_true rfl⟩, ?_⟩) | (with_reducible refine Or.inl ⟨_, rfl, ?_⟩) | (with_reducible refine Or.inr ⟨_, rfl, ?_⟩))
      refine ⟨fun z => (nomatch z), fun _ => ?_⟩
      repeat (first | with_reducible (first | refine ws_seq ?_ | refine nxt_nx ?_ | refine lp_nx ?_ | refine lp_ct ?_ | refine lp_bk ?_ | refine lp_rt ?_ | refine lp_rf ?_ | refine nxt_rt ?_ | refine nxt_rf ?_ | refine nxt_bk ?_ | refine nxt_ct ?_ | refine end_nx ?_ | refine end_rt ?_ | refine end_rf ?_ | refine ws_next ?_ | refine ws_brk ?_ | refine ws_cnt ?_ | refine ws_do ?_ | refine ws_ret ?_ | refine ws_retF ?_ | refine ws_retN ?_ | refine ws_set ?_ | refine ws_acc ?_ | refine ws_par ?_ | refine ws_asg ?_ | refine ws_for ?_ | refine ws_if ?_ | refine we_2 ?_ | refine we_1 ?_ | refine we_n ?_ | refine we_3 ?_ | refine we_c ?_ | refine wo_none ?_ | refine wo_some ?_ | refine wl_cons ?_ | refine wl_nil ?_ | refine we_V ?_ | refine we_own ?_ | refine we_tup ?_ | refine wl_lst ?_ | refine wt_of ?_ | refine wt_or ?_ | refine wt_and ?_ | refine wt_not ?_ | refine we_and ?_ | refine we_or ?_ | refine we_not ?_ | refine we_if ?_ | refine we_isN ?_ | refine we_notN ?_ | refine we_chain ?_ | refine wt_yes ?_ | refine wi_L ?_ | refine wi_T ?_ | refine wi_S ?_ | refine wi_R1 ?_ | refine wi_R2 ?_ | refine wi_R3 ?_ | refine wi_E ?_ | refine we_call ?_ | refine we_callF ?_ | refine we_bm ?_ | refine wg_sb ?_ | refine we_m1 ?_ | refine we_rev ?_ | refine wo_add ?_ | refine wo_sub ?_ | refine wo_neg ?_ | refine wo_cmp ?_ | refine wo_eqI ?_ | refine wo_neI ?_ | refine wo_eqS ?_ | refine wo_neS ?_ | refine wo_eqB ?_ | refine wo_neB ?_ | refine wo_lenL ?_ | refine wo_lenT ?_ | refine wo_lenC ?_ | refine wo_max ?_ | refine wo_min ?_ | refine wo_slL ?_ | refine wo_listC ?_ | refine wo_listL ?_ | refine wo_listT ?_ | refine wo_tupT ?_ | refine wo_tupL ?_ | refine wo_intI ?_ | refine wo_intB ?_ | refine wo_strS ?_ | refine wo_inS ?_ | refine wo_ninS ?_) | ((with_reducible apply we_var); rfl) | ((with_reducible apply ws_frz); rfl) | ((with_reducible apply ws_app); rfl) | ((with_reducible apply ws_extend); rfl) | ((with_reducible apply ws_retA); rfl) | ((with_reducible apply ws_frz0); rfl) | ((with_reducible apply wo_isT); rfl; rfl) | (refine ⟨Nat.le_of_ble_eq_true rfl, ?_⟩) | (with_reducible refine ⟨_, rfl, ?_⟩) | (with_reducible refine wg_nm (Nat.le_of_ble_eq_true rfl) ?_) | (refine ⟨⟨Nat.le_of_ble_eq_true rfl, Nat.le_of_ble_eq_true rfl⟩, ?_⟩) | (with_reducible refine Or.inl ⟨_, rfl, ?_⟩) | (with_reducible refine Or.inr ⟨_, rfl, ?_⟩))
      simp
    | tup hl hz hk =>
      rename_i as bs
      repeat (first | with_reducible (first | refine ws_seq ?_ | refine nxt_nx ?_ | refine lp_nx ?_ | refine lp_ct ?_ | refine lp_bk ?_ | refine lp_rt ?_ | refine lp_rf ?_ | refine nxt_rt ?_ | refine nxt_rf ?_ | refine nxt_bk ?_ | refine nxt_ct ?_ | refine end_nx ?_ | refine end_rt ?_ | refine end_rf ?_ | refine ws_next ?_ | refine ws_brk ?_ | refine ws_cnt ?_ | refine ws_do ?_ | refine ws_ret ?_ | refine ws_retF ?_ | refine ws_retN ?_ | refine ws_set ?_ | refine ws_acc ?_ | refine ws_par ?_ | refine ws_asg ?_ | refine ws_for ?_ | refine ws_if ?_ | refine we_2 ?_ | refine we_1 ?_ | refine we_n ?_ | refine we_3 ?_ | refine we_c ?_ | refine wo_none ?_ | refine wo_some ?_ | refine wl_cons ?_ | refine wl_nil ?_ | refine we_V ?_ | refine we_own ?_ | refine we_tup ?_ | refine wl_lst ?_ | refine wt_of ?_ | refine wt_or ?_ | refine wt_and ?_ | refine wt_not ?_ | refine we_and ?_ | refine we_or ?_ | refine we_not ?_ | refine we_if ?_ | refine we_isN ?_ | refine we_notN ?_ | refine we_chain ?_ | refine wt_yes ?_ | refine wi_L ?_ | refine wi_T ?_ | refine wi_S ?_ | refine wi_R1 ?_ | refine wi_R2 ?_ | refine wi_R3 ?_ | refine wi_E ?_ | refine we_call ?_ | refine we_callF ?_ | refine we_bm ?_ | refine wg_sb ?_ | refine we_m1 ?_ | refine we_rev ?_ | refine wo_add ?_ | refine wo_sub ?_ | refine wo_neg ?_ | refine wo_cmp ?_ | refine wo_eqI ?_ | refine wo_neI ?_ | refine wo_eqS ?_ | refine wo_neS ?_ | refine wo_eqB ?_ | refine wo_neB ?_ | refine wo_lenL ?_ | refine wo_lenT ?_ | refine wo_lenC ?_ | refine wo_max ?_ | refine wo_min ?_ | refine wo_slL ?_ | refine wo_listC ?_ | refine wo_listL ?_ | refine wo_listT ?_ | refine wo_tupT ?_ | refine wo_tupL ?_ | refine wo_intI ?_ | refine wo_intB ?_ | refine wo_strS ?_ | refine wo_inS ?_ | refine wo_ninS ?_) | ((with_reducible apply we_var); rfl) | ((with_reducible apply ws_frz); rfl) | ((with_reducible apply ws_app); rfl) | ((with_reducible apply ws_extend); rfl) | ((with_reducible apply ws_retA); rfl) | ((with_reducible apply ws_frz0); rfl) | ((with_reducible apply wo_isT); rfl; rfl) | (refine ⟨Nat.le_of_ble_eq_true rfl, ?_⟩) | (with_reducible refine ⟨_, rfl, ?_⟩) | (with_reducible refine wg_nm (Nat.le_of_ble_eq_true rfl) ?_) | (refine ⟨⟨Nat.le_of_ble_eq_true rfl, Nat.le_of_ble_eq_true rfl⟩, ?_⟩) | (with_reducible refine Or.inl ⟨_, rfl, ?_⟩) | (with_reducible refine Or.inr ⟨_, rfl, ?_⟩))
      refine ⟨fun z => (nomatch z), fun _ => ?_⟩
      repeat (first | with_reducible (first | refine ws_seq ?_ | refine nxt_nx ?_ | refine lp_nx ?_ | refine lp_ct ?_ | refine lp_bk ?_ | refine lp_rt ?_ | refine lp_rf ?_ | refine nxt_rt ?_ | refine nxt_rf ?_ | refine nxt_bk ?_ | refine nxt_ct ?_ | refine end_nx ?_ | refine end_rt ?_ | refine end_rf ?_ | refine ws_next ?_ | refine ws_brk ?_ | refine ws_cnt ?_ | refine ws_do ?_ | refine ws_ret ?_ | refine ws_retF ?_ | refine ws_retN ?_ | refine ws_set ?_ | refine ws_acc ?_ | refine ws_par ?_ | refine ws_asg ?_ | refine ws_for ?_ | refine ws_if ?_ | refine we_2 ?_ | refine we_1 ?_ | refine we_n ?_ | refine we_3 ?_ | refine we_c ?_ | refine wo_none ?_ | refine wo_some ?_ | refine wl_cons ?_ | refine wl_nil ?_ | refine we_V ?_ | refine we_own ?_ | refine we_tup ?_ | refine wl_lst ?_ | refine wt_of ?_ | refine wt_or ?_ | refine wt_and ?_ | refine wt_not ?_ | refine we_and ?_ | refine we_or ?_ | refine we_not ?_ | refine we_if ?_ | refine we_isN ?_ | refine we_notN ?_ | refine we_chain ?_ | refine wt_yes ?_ | refine wi_L ?_ | refine wi_T ?_ | refine wi_S ?_ | refine wi_R1 ?_ | refine wi_R2 ?_ | refine wi_R3 ?_ | refine wi_E ?_ | refine we_call ?_ | refine we_callF ?_ | refine we_bm ?_ | refine wg_sb ?_ | refine we_m1 ?_ | refine we_rev ?_ | refine wo_add ?_ | refine wo_sub ?_ | refine wo_neg ?_ | refine wo_cmp ?_ | refine wo_eqI ?_ | refine wo_neI ?_ | refine wo_eqS ?_ | refine wo_neS ?_ | refine wo_eqB ?_ | refine wo_neB ?_ | refine wo_lenL ?_ | refine wo_lenT ?_ | refine wo_lenC ?_ | refine wo_max ?_ | refine wo_min ?_ | refine wo_slL ?_ | refine wo_listC ?_ | refine wo_listL ?_ | refine wo_listT ?_ | refine wo_tupT ?_ | refine wo_tupL ?_ | refine wo_intI ?_ | refine wo_intB ?_ | refine wo_strS ?_ | refine wo_inS ?_ | refine wo_ninS ?_) | ((with_reducible apply we_var); rfl) | ((with_reducible apply ws_frz); rfl) | ((with_reducible apply ws_app); rfl) | ((with_reducible apply ws_extend); rfl) | ((with_reducible apply ws_retA); rfl) | ((with_reducible apply ws_frz0); rfl) | ((with_reducible apply wo_isT); rfl; rfl) | (refine ⟨Nat.le_of_ble_eq_true rfl, ?_⟩) | (with_reducible refine ⟨_, rfl, ?_⟩) | (with_reducible refine wg_nm (Nat.le_of_ble_eq_true rfl) ?_) | (refine ⟨⟨Nat.le_of_ble_eq_true rfl, Nat.le_of_ble_eq_true rfl⟩, ?_⟩) | (with_reducible refine Or.inl ⟨_, rfl, ?_⟩) | (with_reducible refine Or.inr ⟨_, rfl, ?_⟩))
      refine ⟨fun z => (nomatch z), fun _ => ?_⟩
      repeat (first | with_reducible (first | refine ws_seq ?_ | refine nxt_nx ?_ | refine lp_nx ?_ | refine lp_ct ?_ | refine lp_bk ?_ | refine lp_rt ?_ | refine lp_rf ?_ | refine nxt_rt ?_ | refine nxt_rf ?_ | refine nxt_bk ?_ | refine nxt_ct ?_ | refine end_nx ?_ | refine end_rt ?_ | refine end_rf ?_ | refine ws_next ?_ | refine ws_brk ?_ | refine ws_cnt ?_ | refine ws_do ?_ | refine ws_ret ?_ | refine ws_retF ?_ | refine ws_retN ?_ | refine ws_set ?_ | refine ws_acc ?_ | refine ws_par ?_ | refine ws_asg ?_ | refine ws_for ?_ | refine ws_if ?_ | refine we_2 ?_ | refine we_1 ?_ | refine we_n ?_ | refine we_3 ?_ | refine we_c ?_ | refine wo_none ?_ | refine wo_some ?_ | refine wl_cons ?_ | refine wl_nil ?_ | refine we_V ?_ | refine we_own ?_ | refine we_tup ?_ | refine wl_lst ?_ | refine wt_of ?_ | refine wt_or ?_ | refine wt_and ?_ | refine wt_not ?_ | refine we_and ?_ | refine we_or ?_ | refine we_not ?_ | refine we_if ?_ | refine we_isN ?_ | refine we_notN ?_ | refine we_chain ?_ | refine wt_yes ?_ | refine wi_L ?_ | refine wi_T ?_ | refine wi_S ?_ | refine wi_R1 ?_ | refine wi_R2 ?_ | refine wi_R3 ?_ | refine wi_E ?_ | refine we_call ?_ | refine we_callF ?_ | refine we_bm ?_ | refine wg_sb ?_ | refine we_m1 ?_ | refine we_rev ?_ | refine wo_add ?_ | refine wo_sub ?_ | refine wo_neg ?_ | refine wo_cmp ?_ | refine wo_eqI ?_ | refine wo_neI ?_ | refine wo_eqS ?_ | refine wo_neS ?_ | refine wo_eqB ?_ | refine wo_neB ?_ | refine wo_lenL ?_ | refine wo_lenT ?_ | refine wo_lenC ?_ | refine wo_max ?_ | refine wo_min ?_ | refine wo_slL ?_ | refine wo_listC ?_ | refine wo_listL ?_ | refine wo_listT ?_ | refine wo_tupT ?_ | refine wo_tupL ?_ | refine wo_intI ?_ | refine wo_intB ?_ | refine wo_strS ?_ | refine wo_inS ?_ | refine wo_ninS ?_) | ((with_reducible apply we_var); rfl) | ((with_reducible apply ws_frz); rfl) | ((with_reducible apply ws_app); rfl) | ((with_reducible apply ws_extend); rfl) | ((with_reducible apply ws_retA); rfl) | ((with_reducible apply ws_frz0); rfl) | ((with_reducible apply wo_isT); rfl; rfl) | (refine ⟨Nat.le_of_ble_eq_true rfl, ?_⟩) | (with_reducible refine ⟨_, rfl, ?_⟩) | (with_reducible refine wg_nm (Nat.le_of_ble_eq_true rfl) ?_) | (refine ⟨⟨Nat.le_of_ble_eq_true rfl, Nat.le_of_ble_eq_true rfl⟩, ?_⟩) | (with_reducible refine Or.inl ⟨_, rfl, ?_⟩) | (with_reducible refine Or.inr ⟨_, rfl, ?_⟩))
      refine ⟨fun z => (nomatch z), fun _ => ?_⟩
      repeat (first | with_reducible (first | refine ws_seq ?_ | refine nxt_nx ?_ | refine lp_nx ?_ | refine lp_ct ?_ | refine lp_bk ?_ | refine lp_rt ?_ | refine lp_rf ?_ | refine nxt_rt ?_ | refine nxt_rf ?_ | refine nxt_bk ?_ | refine nxt_ct ?_ | refine end_nx ?_ | refine end_rt ?_ | refine end_rf ?_ | refine ws_next ?_ | refine ws_brk ?_ | refine ws_cnt ?_ | refine ws_do ?_ | refine ws_ret ?_ | refine ws_retF ?_ | refine ws_retN ?_ | refine ws_set ?_ | refine ws_acc ?_ | refine ws_par ?_ | refine ws_asg ?_ | refine ws_for ?_ | refine ws_if ?_ | refine we_2 ?_ | refine we_1 ?_ | refine we_n ?_ | refine we_3 ?_ | refine we_c ?_ | refine wo_none ?_ | refine wo_some ?_ | refine wl_cons ?_ | refine wl_nil ?_ | refine we_V ?_ | refine we_own ?_ | refine we_tup ?_ | refine wl_lst ?_ | refine wt_of ?_ | refine wt_or ?_ | refine wt_and ?_ | refine wt_not ?_ | refine we_and ?_ | refine we_or ?_ | refine we_not ?_ | refine we_if ?_ | refine we_isN ?_ | refine we_notN ?_ | refine we_chain ?_ | refine wt_yes ?_ | refine wi_L ?_ | refine wi_T ?_ | refine wi_S ?_ | refine wi_R1 ?_ | refine wi_R2 ?_ | refine wi_R3 ?_ | refine wi_E ?_ | refine we_call ?_ | refine we_callF ?_ | refine we_bm ?_ | refine wg_sb ?_ | refine we_m1 ?_ | refine we_rev ?_ | refine wo_add ?_ | refine wo_sub ?_ | refine wo_neg ?_ | refine wo_cmp ?_ | refine wo_eqI ?_ | refine wo_neI ?_ | refine wo_eqS ?_ | refine wo_neS ?_ | refine wo_eqB ?_ | refine wo_neB ?_ | refine wo_lenL ?_ | refine wo_lenT ?_ | refine wo_lenC ?_ | refine wo_max ?_ | refine wo_min ?_ | refine wo_slL ?_ | refine wo_listC ?_ | refine wo_listL ?_ | refine wo_listT ?_ | refine wo_tupT ?_ | refine wo_tupL ?_ | refine wo_intI ?_ | refine wo_intB ?_ | refine wo_strS ?_ | refine wo_inS ?_ | refine wo_ninS ?_) | ((with_reducible apply we_var); rfl) | ((with_reducible apply ws_frz); rfl) | ((with_reducible apply ws_app); rfl) | ((with_reducible apply ws_extend); rfl) | ((with_reducible apply ws_retA); rfl) | ((with_reducible apply ws_frz0); rfl) | ((with_reducible apply wo_isT); rfl; rfl) | (refine ⟨Nat.le_of_ble_eq_true rfl, ?_⟩) | (with_reducible refine ⟨_, rfl, ?_⟩) | (with_reducible refine wg_nm (Nat.le_of_ble_eq_true rfl) ?_) | (refine ⟨⟨Nat.le_of_ble_eq_true rfl, Nat.le_of_ble_eq_true rfl⟩, ?_⟩) | (with_reducible refine Or.inl ⟨_, rfl, ?_⟩) | (with_reducible refine Or.inr ⟨_, rfl, ?_⟩))
      refine ⟨fun z => (nomatch z), fun _ => ?_⟩
      repeat (first | with_reducible (first | refine ws_seq ?_ | refine nxt_nx ?_ | refine lp_nx ?_ | refine lp_ct ?_ | refine lp_bk ?_ | refine lp_rt ?_ | refine lp_rf ?_ | refine nxt_rt ?_ | refine nxt_rf ?_ | refine nxt_bk ?_ | refine nxt_ct ?_ | refine end_nx ?_ | refine end_rt ?_ | refine end_rf ?_ | refine ws_next ?_ | refine ws_brk ?_ | refine ws_cnt ?_ | refine ws_do ?_ | refine ws_ret ?_ | refine ws_retF ?_ | refine ws_retN ?_ | refine ws_set ?_ | refine ws_acc ?_ | refine ws_par ?_ | refine ws_asg ?_ | refine ws_for ?_ | refine ws_if ?_ | refine we_2 ?_ | refine we_1 ?_ | refine we_n ?_ | refine we_3 ?_ | refine we_c ?_ | refine wo_none ?_ | refine wo_some ?_ | refine wl_cons ?_ | refine wl_nil ?_ | refine we_V ?_ | refine we_own ?_ | refine we_tup ?_ | refine wl_lst ?_ | refine wt_of ?_ | refine wt_or ?_ | refine wt_and ?_ | refine wt_not ?_ | refine we_and ?_ | refine we_or ?_ | refine we_not ?_ | refine we_if ?_ | refine we_isN ?_ | refine we_notN ?_ | refine we_chain ?_ | refine wt_yes ?_ | refine wi_L ?_ | refine wi_T ?_ | refine wi_S ?_ | refine wi_R1 ?_ | refine wi_R2 ?_ | refine wi_R3 ?_ | refine wi_E ?_ | refine we_call ?_ | refine we_callF ?_ | refine we_bm ?_ | refine wg_sb ?_ | refine we_m1 ?_ | refine we_rev ?_ | refine wo_add ?_ | refine wo_sub ?_ | refine wo_neg ?_ | refine wo_cmp ?_ | refine wo_eqI ?_ | refine wo_neI ?_ | refine wo_eqS ?_ | refine wo_neS ?_ | refine wo_eqB ?_ | refine wo_neB ?_ | refine wo_lenL ?_ | refine wo_lenT ?_ | refine wo_lenC ?_ | refine wo_max ?_ | refine wo_min ?_ | refine wo_slL ?_ | refine wo_listC ?_ | refine wo_listL ?_ | refine wo_listT ?_ | refine wo_tupT ?_ | refine wo_tupL ?_ | refine wo_intI ?_ | refine wo_intB ?_ | refine wo_strS ?_ | refine wo_inS ?_ | refine wo_ninS ?_) | ((with_reducible apply we_var); rfl) | ((with_reducible apply ws_frz); rfl) | ((with_reducible apply ws_app); rfl) | ((with_reducible apply ws_extend); rfl) | ((with_reducible apply ws_retA); rfl) | ((with_reducible apply ws_frz0); rfl) | ((with_reducible apply wo_isT); rfl; rfl) | (refine ⟨Nat.le_of_ble_eq_true rfl, ?_⟩) | (with_reducible refine ⟨_, rfl, ?_⟩) | (with_reducible refine wg_nm (Nat.le_of_ble_eq_true rfl) ?_) | (refine ⟨⟨Nat.le_of_ble_eq_true rfl, Nat.le_of_ble_eq_true rfl⟩, ?_⟩) | (with_reducible refine Or.inl ⟨_, rfl, ?_⟩) | (with_reducible refine Or.inr ⟨_, rfl, ?_⟩))
      refine ⟨fun z => (nomatch z), fun _ => ?_⟩
      repeat (first | with_reducible (first | refine ws_seq ?_ | refine nxt_nx ?_ | refine lp_nx ?_ | refine lp_ct ?_ | refine lp_bk ?_ | refine lp_rt ?_ | refine lp_rf ?_ | refine nxt_rt ?_ | refine nxt_rf ?_ | refine nxt_bk ?_ | refine nxt_ct ?_ | refine end_nx ?_ | refine end_rt ?_ | refine end_rf ?_ | refine ws_next ?_ | refine ws_brk ?_ | refine ws_cnt ?_ | refine ws_do ?_ | refine ws_ret ?_ | refine ws_retF ?_ | refine ws_retN ?_ | refine ws_set ?_ | refine ws_acc ?_ | refine ws_par ?_ | refine ws_asg ?_ | refine ws_for ?_ | refine ws_if ?_ | refine we_2 ?_ | refine we_1 ?_ | refine we_n ?_ | refine we_3 ?_ | refine we_c ?_ | refine wo_none ?_ | refine wo_some ?_ | refine wl_cons ?_ | refine wl_nil ?_ | refine we_V ?_ | refine we_own ?_ | refine we_tup ?_ | refine wl_lst ?_ | refine wt_of ?_ | refine wt_or ?_ | refine wt_and ?_ | refine wt_not ?_ | refine we_and ?_ | refine we_or ?_ | refine we_not ?_ | refine we_if ?_ | refine we_isN ?_ | refine we_notN ?_ | refine we_chain ?_ | refine wt_yes ?_ | refine wi_L ?_ | refine wi_T ?_ | refine wi_S ?_ | refine wi_R1 ?_ | refine wi_R2 ?_ | refine wi_R3 ?_ | refine wi_E ?_ | refine we_call ?_ | refine we_callF ?_ | refine we_bm ?_ | refine wg_sb ?_ | refine we_m1 ?_ | refine we_rev ?_ | refine wo_add ?_ | refine wo_sub ?_ | refine wo_neg ?_ | refine wo_cmp ?_ | refine wo_eqI ?_ | refine wo_neI ?_ | refine wo_eqS ?_ | refine wo_neS ?_ | refine wo_eqB ?_ | refine wo_neB ?_ | refine wo_lenL ?_ | refine wo_lenT ?_ | refine wo_lenC ?_ | refine wo_max ?_ | refine wo_min ?_ | refine wo_slL ?_ | refine wo_listC ?_ | refine wo_listL ?_ | refine wo_listT ?_ | refine wo_tupT ?_ | refine wo_tupL ?_ | refine wo_intI ?_ | refine wo_intB ?_ | refine wo_strS ?_ | refine wo_inS ?_ | refine wo_ninS ?_) | ((with_reducible apply we_var); rfl) | ((with_reducible apply ws_frz); rfl) | ((with_reducible apply ws_app); rfl) | ((with_reducible apply ws_extend); rfl) | ((with_reducible apply ws_retA); rfl) | ((with_reducible apply ws_frz0); rfl) | ((with_reducible apply wo_isT); rfl; rfl) | (refine ⟨Nat.le_of_ble_eq_true rfl, ?_⟩) | (with_reducible refine ⟨_, rfl, ?_⟩) | (with_reducible refine wg_nm (Nat.le_of_ble_eq_true rfl) ?_) | (refine ⟨⟨Nat.le_of_ble_eq_true rfl, Nat.le_of_ble_eq_true rfl⟩, ?_⟩) | (with_reducible refine Or.inl ⟨_, rfl, ?_⟩) | (with_reducible refine Or.inr ⟨_, rfl, ?_⟩))
      refine ⟨fun z => (nomatch z), fun _ => ?_⟩
      repeat (first | with_reducible (first | refine ws_seq ?_ | refine nxt_nx ?_ | refine lp_nx ?_ | refine lp_ct ?_ | refine lp_bk ?_ | refine lp_rt ?_ | refine lp_rf ?_ | refine nxt_rt ?_ | refine nxt_rf ?_ | refine nxt_bk ?_ | refine nxt_ct ?_ | refine end_nx ?_ | refine end_rt ?_ | refine end_rf ?_ | refine ws_next ?_ | refine ws_brk ?_ | refine ws_cnt ?_ | refine ws_do ?_ | refine ws_ret ?_ | refine ws_retF ?_ | refine ws_retN ?_ | refine ws_set ?_ | refine ws_acc ?_ | refine ws_par ?_ | refine ws_asg ?_ | refine ws_for ?_ | refine ws_if ?_ | refine we_2 ?_ | refine we_1 ?_ | refine we_n ?_ | refine we_3 ?_ | refine we_c ?_ | refine wo_none ?_ | refine wo_some ?_ | refine wl_cons ?_ | refine wl_nil ?_ | refine we_V ?_ | refine we_own ?_ | refine we_tup ?_ | refine wl_lst ?_ | refine wt_of ?_ | refine wt_or ?_ | refine wt_and ?_ | refine wt_not ?_ | refine we_and ?_ | refine we_or ?_ | refine we_not ?_ | refine we_if ?_ | refine we_isN ?_ | refine we_notN ?_ | refine we_chain ?_ | refine wt_yes ?_ | refine wi_L ?_ | refine wi_T ?_ | refine wi_S ?_ | refine wi_R1 ?_ | refine wi_R2 ?_ | refine wi_R3 ?_ | refine wi_E ?_ | refine we_call ?_ | refine we_callF ?_ | refine we_bm ?_ | refine wg_sb ?_ | refine we_m1 ?_ | refine we_rev ?_ | refine wo_add ?_ | refine wo_sub ?_ | refine wo_neg ?_ | refine wo_cmp ?_ | refine wo_eqI ?_ | refine wo_neI ?_ | refine wo_eqS ?_ | refine wo_neS ?_ | refine wo_eqB ?_ | refine wo_neB ?_ | refine wo_lenL ?_ | refine wo_lenT ?_ | refine wo_lenC ?_ | refine wo_max ?_ | refine wo_min ?_ | refine wo_slL ?_ | refine wo_listC ?_ | refine wo_listL ?_ | refine wo_listT ?_ | refine wo_tupT ?_ | refine wo_tupL ?_ | refine wo_intI ?_ | refine wo_intB ?_ | refine wo_strS ?_ | refine wo_inS ?_ | refine wo_ninS ?_) | ((with_reducible apply we_var); rfl) | ((with_reducible apply ws_frz); rfl) | ((with_reducible apply ws_app); rfl) | ((with_reducible apply ws_extend); rfl) | ((with_reducible apply ws_retA); rfl) | ((with_reducible apply ws_frz0); rfl) | ((with_reducible apply wo_isT); rfl; rfl) | (refine ⟨Nat.le_of_ble_eq_true rfl, ?_⟩) | (with_reducible refine ⟨_, rfl, ?_⟩) | (with_reducible refine wg_nm (Nat.le_of_ble_eq_true rfl) ?_) | (refine ⟨⟨Nat.le_of_ble_eq_true rfl, Nat.le_of_ble_eq_true rfl⟩, ?_⟩) | (with_reducible refine Or.inl ⟨_, rfl, ?_⟩) | (with_reducible refine Or.inr ⟨_, rfl, ?_⟩))
      refine ⟨fun z => ?_, fun _ => ?_⟩
      · simp [hl] at z
      repeat (first | with_reducible (first | refine ws_seq ?_ | refine nxt_nx ?_ | refine lp_nx ?_ | refine lp_ct ?_ | refine lp_bk ?_ | refine lp_rt ?_ | refine lp_rf ?_ | refine nxt_rt ?_ | refine nxt_rf ?_ | refine nxt_bk ?_ | refine nxt_ct ?_ | refine end_nx ?_ | refine end_rt ?_ | refine end_rf ?_ | refine ws_next ?_ | refine ws_brk ?_ | refine ws_cnt ?_ | refine ws_do ?_ | refine ws_ret ?_ | refine ws_retF ?_ | refine ws_retN ?_ | refine ws_set ?_ | refine ws_acc ?_ | refine ws_par ?_ | refine ws_asg ?_ | refine ws_for ?_ | refine ws_if ?_ | refine we_2 ?_ | refine we_1 ?_ | refine we_n ?_ | refine we_3 ?_ | refine we_c ?_ | refine wo_none ?_ | refine wo_some ?_ | refine wl_cons ?_ | refine wl_nil ?_ | refine we_V ?_ | refine we_own ?_ | refine we_tup ?_ | refine wl_lst ?_ | refine wt_of ?_ | refine wt_or ?_ | refine wt_and ?_ | refine wt_not ?_ | refine we_and ?_ | refine we_or ?_ | refine we_not ?_ | refine we_if ?_ | refine we_isN ?_ | refine we_notN ?_ | refine we_chain ?_ | refine wt_yes ?_ | refine wi_L ?_ | refine wi_T ?_ | refine wi_S ?_ | refine wi_R1 ?_ | refine wi_R2 ?_ | refine wi_R3 ?_ | refine wi_E ?_ | refine we_call ?_ | refine we_callF ?_ | refine we_bm ?_ | refine wg_sb ?_ | refine we_m1 ?_ | refine we_rev ?_ | refine wo_add ?_ | refine wo_sub ?_ | refine wo_neg ?_ | refine wo_cmp ?_ | refine wo_eqI ?_ | refine wo_neI ?_ | refine wo_eqS ?_ | refine wo_neS ?_ | refine wo_eqB ?_ | refine wo_neB ?_ | refine wo_lenL ?_ | refine wo_lenT ?_ | refine wo_lenC ?_ | refine wo_max ?_ | refine wo_min ?_ | refine wo_slL ?_ | refine wo_listC ?_ | refine wo_listL ?_ | refine wo_listT ?_ | refine wo_tupT ?_ | refine wo_tupL ?_ | refine wo_intI ?_ | refine wo_intB ?_ | refine wo_strS ?_ | refine wo_inS ?_ | refine wo_ninS ?_) | ((with_reducible apply we_var); rfl) | ((with_reducible apply ws_frz); rfl) | ((with_reducible apply ws_app); rfl) | ((with_reducible apply ws_extend); rfl) | ((with_reducible apply ws_retA); rfl) | ((with_reducible apply ws_frz0); rfl) | ((with_reducible apply wo_isT); rfl; rfl) | (refine ⟨Nat.le_of_ble_eq_true rfl, ?_⟩) | (with_reducible refine ⟨_, rfl, ?_⟩) | (with_reducible refine wg_nm (Nat.le_of_ble_eq_true rfl) ?_) | (refine ⟨⟨Nat.le_of_ble_eq_true rfl, Nat.le_of_ble_eq_true rfl⟩, ?_⟩) | (with_reducible refine Or.inl ⟨_, rfl, ?_⟩) | (with_reducible refine Or.inr ⟨_, rfl, ?_⟩))
      refine ⟨by omega, ?_⟩
      refine ws_loop (fun _ ρ S1 => S1 = S ∧ ∃ z : Sl, ρ = [.val (.tup as), .val (.tup bs), z]) ⟨rfl, .no, rfl⟩ ?_ ?_
      · rintro k d ρ S1 hd ⟨rfl, z, rfl⟩
        obtain ⟨rfl, lt⟩ := rng_get hd
        have lt' : k < bs.length := by simpa using lt
        have ea : as[((0 : Int) + (k : Int)).toNat]? = some (as[k]'(by omega)) := by simp
        have eb : bs[((0 : Int) + (k : Int)).toNat]? = some (bs[k]'lt') := by simp
        repeat (first | with_reducible (first | refine ws_seq ?_ | refine nxt_nx ?_ | refine lp_nx ?_ | refine lp_ct ?_ | refine lp_bk ?_ | refine lp_rt ?_ | refine lp_rf ?_ | refine nxt_rt ?_ | refine nxt_rf ?_ | refine nxt_bk ?_ | refine nxt_ct ?_ | refine end_nx ?_ | refine end_rt ?_ | refine end_rf ?_ | refine ws_next ?_ | refine ws_brk ?_ | refine ws_cnt ?_ | refine ws_do ?_ | refine ws_ret ?_ | refine ws_retF ?_ | refine ws_retN ?_ | refine ws_set ?_ | refine ws_acc ?_ | refine ws_par ?_ | refine ws_asg ?_ | refine ws_for ?_ | refine ws_if ?_ | refine we_2 ?_ | refine we_1 ?_ | refine we_n ?_ | refine we_3 ?_ | refine we_c ?_ | refine wo_none ?_ | refine wo_some ?_ | refine wl_cons ?_ | refine wl_nil ?_ | refine we_V ?_ | refine we_own ?_ | refine we_tup ?_ | refine wl_lst ?_ | refine wt_of ?_ | refine wt_or ?_ | refine wt_and ?_ | refine wt_not ?_ | refine we_and ?_ | refine we_or ?_ | refine we_not ?_ | refine we_if ?_ | refine we_isN ?_ | refine we_notN ?_ | refine we_chain ?_ | refine wt_yes ?_ | refine wi_L ?_ | refine wi_T ?_ | refine wi_S ?_ | refine wi_R1 ?_ | refine wi_R2 ?_ | refine wi_R3 ?_ | refine wi_E ?_ | refine we_call ?_ | refine we_callF ?_ | refine we_bm ?_ | refine wg_sb ?_ | refine we_m1 ?_ | refine we_rev ?_ | refine wo_add ?_ | refine wo_sub ?_ | refine wo_neg ?_ | refine wo_cmp ?_ | refine wo_eqI ?_ | refine wo_neI ?_ | refine wo_eqS ?_ | refine wo_neS ?_ | refine wo_eqB ?_ | refine wo_neB ?_ | refine wo_lenL ?_ | refine wo_lenT ?_ | refine wo_lenC ?_ | refine wo_max ?_ | refine wo_min ?_ | refine wo_slL ?_ | refine wo_listC ?_ | refine wo_listL ?_ | refine wo_listT ?_ | refine wo_tupT ?_ | refine wo_tupL ?_ | refine wo_intI ?_ | refine wo_intB ?_ | refine wo_strS ?_ | refine wo_inS ?_ | refine wo_ninS ?_) | ((with_reducible apply we_var); rfl) | ((with_reducible apply ws_frz); rfl) | ((with_reducible apply ws_app); rfl) | ((with_reducible apply ws_extend); rfl) | ((with_reducible apply ws_retA); rfl) | ((with_reducible apply ws_frz0); rfl) | ((with_reducible apply wo_isT); rfl; rfl) | (refine ⟨Nat.le_of_ble_eq_true rfl, ?_⟩) | (with_reducible refine ⟨_, rfl, ?_⟩) | (with_reducible refine wg_nm (Nat.le_of_ble_eq_true rfl) ?_) | (refine ⟨⟨Nat.le_of_ble_eq_true rfl, Nat.le_of_ble_eq_true rfl⟩, ?_⟩) | (with_reducible refine Or.inl ⟨_, rfl, ?_⟩) | (with_reducible refine Or.inr ⟨_, rfl, ?_⟩))
        refine wo_ixT (by omega) ea ?_
        repeat (first | with_reducible (first | refine ws_seq ?_ | refine nxt_nx ?_ | refine lp_nx ?_ | refine lp_ct ?_ | refine lp_bk ?_ | refine lp_rt ?_ | refine lp_rf ?_ | refine nxt_rt ?_ | refine nxt_rf ?_ | refine nxt_bk ?_ | refine nxt_ct ?_ | refine end_nx ?_ | refine end_rt ?_ | refine end_rf ?_ | refine ws_next ?_ | refine ws_brk ?_ | refine ws_cnt ?_ | refine ws_do ?_ | refine ws_ret ?_ | refine ws_retF ?_ | refine ws_retN ?_ | refine ws_set ?_ | refine ws_acc ?_ | refine ws_par ?_ | refine ws_asg ?_ | refine ws_for ?_ | refine ws_if ?_ | refine we_2 ?_ | refine we_1 ?_ | refine we_n ?_ | refine we_3 ?_ | refine we_c ?_ | refine wo_none ?_ | refine wo_some ?_ | refine wl_cons ?_ | refine wl_nil ?_ | refine we_V ?_ | refine we_own ?_ | refine we_tup ?_ | refine wl_lst ?_ | refine wt_of ?_ | refine wt_or ?_ | refine wt_and ?_ | refine wt_not ?_ | refine we_and ?_ | refine we_or ?_ | refine we_not ?_ | refine we_if ?_ | refine we_isN ?_ | refine we_notN ?_ | refine we_chain ?_ | refine wt_yes ?_ | refine wi_L ?_ | refine wi_T ?_ | refine wi_S ?_ | refine wi_R1 ?_ | refine wi_R2 ?_ | refine wi_R3 ?_ | refine wi_E ?_ | refine we_call ?_ | refine we_callF ?_ | refine we_bm ?_ | refine wg_sb ?_ | refine we_m1 ?_ | refine we_rev ?_ | refine wo_add ?_ | refine wo_sub ?_ | refine wo_neg ?_ | refine wo_cmp ?_ | refine wo_eqI ?_ | refine wo_neI ?_ | refine wo_eqS ?_ | refine wo_neS ?_ | refine wo_eqB ?_ | refine wo_neB ?_ | refine wo_lenL ?_ | refine wo_lenT ?_ | refine wo_lenC ?_ | refine wo_max ?_ | refine wo_min ?_ | refine wo_slL ?_ | refine wo_listC ?_ | refine wo_listL ?_ | refine wo_listT ?_ | refine wo_tupT ?_ | refine wo_tupL ?_ | refine wo_intI ?_ | refine wo_intB ?_ | refine wo_strS ?_ | refine wo_inS ?_ | refine wo_ninS ?_) | ((with_reducible apply we_var); rfl) | ((with_reducible apply ws_frz); rfl) | ((with_reducible apply ws_app); rfl) | ((with_reducible apply ws_extend); rfl) | ((with_reducible apply ws_retA); rfl) | ((with_reducible apply ws_frz0); rfl) | ((with_reducible apply wo_isT); rfl; rfl) | (refine ⟨Nat.le_of_ble_eq_true rfl, ?_⟩) | (with_reducible refine ⟨_, rfl, ?_⟩) | (with_reducible refine wg_nm (Nat.le_of_ble_eq_true rfl) ?_) | (refine ⟨⟨Nat.le_of_ble_eq_true rfl, Nat.le_of_ble_eq_true rfl⟩, ?_⟩) | (with_reducible refine Or.inl ⟨_, rfl, ?_⟩) | (with_reducible refine Or.inr ⟨_, rfl, ?_⟩))
        refine wo_ixT (by omega) eb ?_
        repeat (first | with_reducible (first | refine ws_seq ?_ | refine nxt_nx ?_ | refine lp_nx ?_ | refine lp_ct ?_ | refine lp_bk ?_ | refine lp_rt ?_ | refine lp_rf ?_ | refine nxt_rt ?_ | refine nxt_rf ?_ | refine nxt_bk ?_ | refine nxt_ct ?_ | refine end_nx ?_ | refine end_rt ?_ | refine end_rf ?_ | refine ws_next ?_ | refine ws_brk ?_ | refine ws_cnt ?_ | refine ws_do ?_ | refine ws_ret ?_ | refine ws_retF ?_ | refine ws_retN ?_ | refine ws_set ?_ | refine ws_acc ?_ | refine ws_par ?_ | refine ws_asg ?_ | refine ws_for ?_ | refine ws_if ?_ | refine we_2 ?_ | refine we_1 ?_ | refine we_n ?_ | refine we_3 ?_ | refine we_c ?_ | refine wo_none ?_ | refine wo_some ?_ | refine wl_cons ?_ | refine wl_nil ?_ | refine we_V ?_ | refine we_own ?_ | refine we_tup ?_ | refine wl_lst ?_ | refine wt_of ?_ | refine wt_or ?_ | refine wt_and ?_ | refine wt_not ?_ | refine we_and ?_ | refine we_or ?_ | refine we_not ?_ | refine we_if ?_ | refine we_isN ?_ | refine we_notN ?_ | refine we_chain ?_ | refine wt_yes ?_ | refine wi_L ?_ | refine wi_T ?_ | refine wi_S ?_ | refine wi_R1 ?_ | refine wi_R2 ?_ | refine wi_R3 ?_ | refine wi_E ?_ | refine we_call ?_ | refine we_callF ?_ | refine we_bm ?_ | refine wg_sb ?_ | refine we_m1 ?_ | refine we_rev ?_ | refine wo_add ?_ | refine wo_sub ?_ | refine wo_neg ?_ | refine wo_cmp ?_ | refine wo_eqI ?_ | refine wo_neI ?_ | refine wo_eqS ?_ | refine wo_neS ?_ | refine wo_eqB ?_ | refine wo_neB ?_ | refine wo_lenL ?_ | refine wo_lenT ?_ | refine wo_lenC ?_ | refine wo_max ?_ | refine wo_min ?_ | refine wo_slL ?_ | refine wo_listC ?_ | refine wo_listL ?_ | refine wo_listT ?_ | refine wo_tupT ?_ | refine wo_tupL ?_ | refine wo_intI ?_ | refine wo_intB ?_ | refine wo_strS ?_ | refine wo_inS ?_ | refine wo_ninS ?_) | ((with_reducible apply we_var); rfl) | ((with_reducible apply ws_frz); rfl) | ((with_reducible apply ws_app); rfl) | ((with_reducible apply ws_extend); rfl) | ((with_reducible apply ws_retA); rfl) | ((with_reducible apply ws_frz0); rfl) | ((with_reducible apply wo_isT); rfl; rfl) | (refine ⟨Nat.le_of_ble_eq_true rfl, ?_⟩) | (with_reducible refine ⟨_, rfl, ?_⟩) | (with_reducible refine wg_nm (Nat.le_of_ble_eq_true rfl) ?_) | (refine ⟨⟨Nat.le_of_ble_eq_true rfl, Nat.le_of_ble_eq_true rfl⟩, ?_⟩) | (with_reducible refine Or.inl ⟨_, rfl, ?_⟩) | (with_reducible refine Or.inr ⟨_, rfl, ?_⟩))
        refine (alike_ok (hk k _ _ (by simp at ea; exact List.getElem?_eq_getElem (by omega)) (List.getElem?_eq_getElem lt'))).mono fun o S2 h => ?_
        obtain ⟨rfl, rfl⟩ := h
        repeat (first | with_reducible (first | refine ws_seq ?_ | refine nxt_nx ?_ | refine lp_nx ?_ | refine lp_ct ?_ | refine lp_bk ?_ | refine lp_rt ?_ | refine lp_rf ?_ | refine nxt_rt ?_ | refine nxt_rf ?_ | refine nxt_bk ?_ | refine nxt_ct ?_ | refine end_nx ?_ | refine end_rt ?_ | refine end_rf ?_ | refine ws_next ?_ | refine ws_brk ?_ | refine ws_cnt ?_ | refine ws_do ?_ | refine ws_ret ?_ | refine ws_retF ?_ | refine ws_retN ?_ | refine ws_set ?_ | refine ws_acc ?_ | refine ws_par ?_ | refine ws_asg ?_ | refine ws_for ?_ | refine ws_if ?_ | refine we_2 ?_ | refine we_1 ?_ | refine we_n ?_ | refine we_3 ?_ | refine we_c ?_ | refine wo_none ?_ | refine wo_some ?_ | refine wl_cons ?_ | refine wl_nil ?_ | refine we_V ?_ | refine we_own ?_ | refine we_tup ?_ | refine wl_lst ?_ | refine wt_of ?_ | refine wt_or ?_ | refine wt_and ?_ | refine wt_not ?_ | refine we_and ?_ | refine we_or ?_ | refine we_not ?_ | refine we_if ?_ | refine we_isN ?_ | refine we_notN ?_ | refine we_chain ?_ | refine wt_yes ?_ | refine wi_L ?_ | refine wi_T ?_ | refine wi_S ?_ | refine wi_R1 ?_ | refine wi_R2 ?_ | refine wi_R3 ?_ | refine wi_E ?_ | refine we_call ?_ | refine we_callF ?_ | refine we_bm ?_ | refine wg_sb ?_ | refine we_m1 ?_ | refine we_rev ?_ | refine wo_add ?_ | refine wo_sub ?_ | refine wo_neg ?_ | refine wo_cmp ?_ | refine wo_eqI ?_ | refine wo_neI ?_ | refine wo_eqS ?_ | refine wo_neS ?_ | refine wo_eqB ?_ | refine wo_neB ?_ | refine wo_lenL ?_ | refine wo_lenT ?_ | refine wo_lenC ?_ | refine wo_max ?_ | refine wo_min ?_ | refine wo_slL ?_ | refine wo_listC ?_ | refine wo_listL ?_ | refine wo_listT ?_ | refine wo_tupT ?_ | refine wo_tupL ?_ | refine wo_intI ?_ | refine wo_intB ?_ | refine wo_strS ?_ | refine wo_inS ?_ | refine wo_ninS ?_) | ((with_reducible apply we_var); rfl) | ((with_reducible apply ws_frz); rfl) | ((with_reducible apply ws_app); rfl) | ((with_reducible apply ws_extend); rfl) | ((with_reducible apply ws_retA); rfl) | ((with_reducible apply ws_frz0); rfl) | ((with_reducible apply wo_isT); rfl; rfl) | (refine ⟨Nat.le_of_ble_eq_true rfl, ?_⟩) | (with_reducible refine ⟨_, rfl, ?_⟩) | (with_reducible refine wg_nm (Nat.le_of_ble_eq_true rfl) ?_) | (refine ⟨⟨Nat.le_of_ble_eq_true rfl, Nat.le_of_ble_eq_true rfl⟩, ?_⟩) | (with_reducible refine Or.inl ⟨_, rfl, ?_⟩) | (with_reducible refine Or.inr ⟨_, rfl, ?_⟩))
        refine ⟨fun z => (nomatch z), fun _ => ?_⟩
        repeat (first | with_reducible (first | refine ws_seq ?_ | refine nxt_nx ?_ | refine lp_nx ?_ | refine lp_ct ?_ | refine lp_bk ?_ | refine lp_rt ?_ | refine lp_rf ?_ | refine nxt_rt ?_ | refine nxt_rf ?_ | refine nxt_bk ?_ | refine nxt_ct ?_ | refine end_nx ?_ | refine end_rt ?_ | refine end_rf ?_ | refine ws_next ?_ | refine ws_brk ?_ | refine ws_cnt ?_ | refine ws_do ?_ | refine ws_ret ?_ | refine ws_retF ?_ | refine ws_retN ?_ | refine ws_set ?_ | refine ws_acc ?_ | refine ws_par ?_ | refine ws_asg ?_ | refine ws_for ?_ | refine ws_if ?_ | refine we_2 ?_ | refine we_1 ?_ | refine we_n ?_ | refine we_3 ?_ | refine we_c ?_ | refine wo_none ?_ | refine wo_some ?_ | refine wl_cons ?_ | refine wl_nil ?_ | refine we_V ?_ | refine we_own ?_ | refine we_tup ?_ | refine wl_lst ?_ | refine wt_of ?_ | refine wt_or ?_ | refine wt_and ?_ | refine wt_not ?_ | refine we_and ?_ | refine we_or ?_ | refine we_not ?_ | refine we_if ?_ | refine we_isN ?_ | refine we_notN ?_ | refine we_chain ?_ | refine wt_yes ?_ | refine wi_L ?_ | refine wi_T ?_ | refine wi_S ?_ | refine wi_R1 ?_ | refine wi_R2 ?_ | refine wi_R3 ?_ | refine wi_E ?_ | refine we_call ?_ | refine we_callF ?_ | refine we_bm ?_ | refine wg_sb ?_ | refine we_m1 ?_ | refine we_rev ?_ | refine wo_add ?_ | refine wo_sub ?_ | refine wo_neg ?_ | refine wo_cmp ?_ | refine wo_eqI ?_ | refine wo_neI ?_ | refine wo_eqS ?_ | refine wo_neS ?_ | refine wo_eqB ?_ | refine wo_neB ?_ | refine wo_lenL ?_ | refine wo_lenT ?_ | refine wo_lenC ?_ | refine wo_max ?_ | refine wo_min ?_ | refine wo_slL ?_ | refine wo_listC ?_ | refine wo_listL ?_ | refine wo_listT ?_ | refine wo_tupT ?_ | refine wo_tupL ?_ | refine wo_intI ?_ | refine wo_intB ?_ | refine wo_strS ?_ | refine wo_inS ?_ | refine wo_ninS ?_) | ((with_reducible apply we_var); rfl) | ((with_reducible apply ws_frz); rfl) | ((with_reducible apply ws_app); rfl) | ((with_reducible apply ws_extend); rfl) | ((with_reducible apply ws_retA); rfl) | ((with_reducible apply ws_frz0); rfl) | ((with_reducible apply wo_isT); rfl; rfl) | (refine ⟨Nat.le_of_ble_eq_true rfl, ?_⟩) | (with_reducible refine ⟨_, rfl, ?_⟩) | (with_reducible refine wg_nm (Nat.le_of_ble_eq_true rfl) ?_) | (refine ⟨⟨Nat.le_of_ble_eq_true rfl, Nat.le_of_ble_eq_true rfl⟩, ?_⟩) | (with_reducible refine Or.inl ⟨_, rfl, ?_⟩) | (with_reducible refine Or.inr ⟨_, rfl, ?_⟩))
        exact ⟨rfl, _, rfl⟩
      · rintro ρ S1 ⟨rfl, z, rfl⟩
        repeat (first | with_reducible (first | refine ws_seq ?_ | refine nxt_nx ?_ | refine lp_nx ?_ | refine lp_ct ?_ | refine lp_bk ?_ | refine lp_rt ?_ | refine lp_rf ?_ | refine nxt_rt ?_ | refine nxt_rf ?_ | refine nxt_bk ?_ | refine nxt_ct ?_ | refine end_nx ?_ | refine end_rt ?_ | refine end_rf ?_ | refine ws_next ?_ | refine ws_brk ?_ | refine ws_cnt ?_ | refine ws_do ?_ | refine ws_ret ?_ | refine ws_retF ?_ | refine ws_retN ?_ | refine ws_set ?_ | refine ws_acc ?_ | refine ws_par ?_ | refine ws_asg ?_ | refine ws_for ?_ | refine ws_if ?_ | refine we_2 ?_ | refine we_1 ?_ | refine we_n ?_ | refine we_3 ?_ | refine we_c ?_ | refine wo_none ?_ | refine wo_some ?_ | refine wl_cons ?_ | refine wl_nil ?_ | refine we_V ?_ | refine we_own ?_ | refine we_tup ?_ | refine wl_lst ?_ | refine wt_of ?_ | refine wt_or ?_ | refine wt_and ?_ | refine wt_not ?_ | refine we_and ?_ | refine we_or ?_ | refine we_not ?_ | refine we_if ?_ | refine we_isN ?_ | refine we_notN ?_ | refine we_chain ?_ | refine wt_yes ?_ | refine wi_L ?_ | refine wi_T ?_ | refine wi_S ?_ | refine wi_R1 ?_ | refine wi_R2 ?_ | refine wi_R3 ?_ | refine wi_E ?_ | refine we_call ?_ | refine we_callF ?_ | refine we_bm ?_ | refine wg_sb ?_ | refine we_m1 ?_ | refine we_rev ?_ | refine wo_add ?_ | refine wo_sub ?_ | refine wo_neg ?_ | refine wo_cmp ?_ | refine wo_eqI ?_ | refine wo_neI ?_ | refine wo_eqS ?_ | refine wo_neS ?_ | refine wo_eqB ?_ | refine wo_neB ?_ | refine wo_lenL ?_ | refine wo_lenT ?_ | refine wo_lenC ?_ | refine wo_max ?_ | refine wo_min ?_ | refine wo_slL ?_ | refine wo_listC ?_ | refine wo_listL ?_ | refine wo_listT ?_ | refine wo_tupT ?_ | refine wo_tupL ?_ | refine wo_intI ?_ | refine wo_intB ?_ | refine wo_strS ?_ | refine wo_inS ?_ | refine wo_ninS ?_) | ((with_reducible apply we_var); rfl) | ((with_reducible apply ws_frz); rfl) | ((with_reducible apply ws_app); rfl) | ((with_reducible apply ws_extend); rfl) | ((with_reducible apply ws_retA); rfl) | ((with_reducible apply ws_frz0); rfl) | ((with_reducible apply wo_isT); rfl; rfl) | (refine ⟨Nat.le_of_ble_eq_true rfl, ?_⟩) | (with_reducible refine ⟨_, rfl, ?_⟩) | (with_reducible refine wg_nm (Nat.le_of_ble_eq_true rfl) ?_) | (refine ⟨⟨Nat.le_of_ble_eq_true rfl, Nat.le_of_ble_eq_true rfl⟩, ?_⟩) | (with_reducible refine Or.inl ⟨_, rfl, ?_⟩) | (with_reducible refine Or.inr ⟨_, rfl, ?_⟩))
        exact ⟨rfl, rfl⟩
    | lst h1 h2 hl hz hk =>
      rename_i as bs
      obtain ⟨ta, na, sa⟩ := lstOf_ty h1
      obtain ⟨tb, nb, sb⟩ := lstOf_ty h2
      repeat (first | with_reducible (first | refine ws_seq ?_ | refine nxt_nx ?_ | refine lp_nx ?_ | refine lp_ct ?_ | refine lp_bk ?_ | refine lp_rt ?_ | refine lp_rf ?_ | refine nxt_rt ?_ | refine nxt_rf ?_ | refine nxt_bk ?_ | refine nxt_ct ?_ | refine end_nx ?_ | refine end_rt ?_ | refine end_rf ?_ | refine ws_next ?_ | refine ws_brk ?_ | refine ws_cnt ?_ | refine ws_do ?_ | refine ws_ret ?_ | refine ws_retF ?_ | refine ws_retN ?_ | refine ws_set ?_ | refine ws_acc ?_ | refine ws_par ?_ | refine ws_asg ?_ | refine ws_for ?_ | refine ws_if ?_ | refine we_2 ?_ | refine we_1 ?_ | refine we_n ?_ | refine we_3 ?_ | refine we_c ?_ | refine wo_none ?_ | refine wo_some ?_ | refine wl_cons ?_ | refine wl_nil ?_ | refine we_V ?_ | refine we_own ?_ | refine we_tup ?_ | refine wl_lst ?_ | refine wt_of ?_ | refine wt_or ?_ | refine wt_and ?_ | refine wt_not ?_ | refine we_and ?_ | refine we_or ?_ | refine we_not ?_ | refine we_if ?_ | refine we_isN ?_ | refine we_notN ?_ | refine we_chain ?_ | refine wt_yes ?_ | refine wi_L ?_ | refine wi_T ?_ | refine wi_S ?_ | refine wi_R1 ?_ | refine wi_R2 ?_ | refine wi_R3 ?_ | refine wi_E ?_ | refine we_call ?_ | refine we_callF ?_ | refine we_bm ?_ | refine wg_sb ?_ | refine we_m1 ?_ | refine we_rev ?_ | refine wo_add ?_ | refine wo_sub ?_ | refine wo_neg ?_ | refine wo_cmp ?_ | refine wo_eqI ?_ | refine wo_neI ?_ | refine wo_eqS ?_ | refine wo_neS ?_ | refine wo_eqB ?_ | refine wo_neB ?_ | refine wo_lenL ?_ | refine wo_lenT ?_ | refine wo_lenC ?_ | refine wo_max ?_ | refine wo_min ?_ | refine wo_slL ?_ | refine wo_listC ?_ | refine wo_listL ?_ | refine wo_listT ?_ | refine wo_tupT ?_ | refine wo_tupL ?_ | refine wo_intI ?_ | refine wo_intB ?_ | refine wo_strS ?_ | refine wo_inS ?_ | refine wo_ninS ?_) | ((with_reducible apply we_var); rfl) | ((with_reducible apply ws_frz); rfl) | ((with_reducible apply ws_app); rfl) | ((with_reducible apply ws_extend); rfl) | ((with_reducible apply ws_retA); rfl) | ((with_reducible apply ws_frz0); rfl) | ((with_reducible apply wo_isT); rfl; rfl) | (refine ⟨Nat.le_of_ble_eq_true rfl, ?_⟩) | (with_reducible refine ⟨_, rfl, ?_⟩) | (with_reducible refine wg_nm (Nat.le_of_ble_eq_true rfl) ?_) | (refine ⟨⟨Nat.le_of_ble_eq_true rfl, Nat.le_of_ble_eq_true rfl⟩, ?_⟩) | (with_reducible refine Or.inl ⟨_, rfl, ?_⟩) | (with_reducible refine Or.inr ⟨_, rfl, ?_⟩))
      refine ⟨false, nb, ?_⟩
      repeat (first | with_reducible (first | refine ws_seq ?_ | refine nxt_nx ?_ | refine lp_nx ?_ | refine lp_ct ?_ | refine lp_bk ?_ | refine lp_rt ?_ | refine lp_rf ?_ | refine nxt_rt ?_ | refine nxt_rf ?_ | refine nxt_bk ?_ | refine nxt_ct ?_ | refine end_nx ?_ | refine end_rt ?_ | refine end_rf ?_ | refine ws_next ?_ | refine ws_brk ?_ | refine ws_cnt ?_ | refine ws_do ?_ | refine ws_ret ?_ | refine ws_retF ?_ | refine ws_retN ?_ | refine ws_set ?_ | refine ws_acc ?_ | refine ws_par ?_ | refine ws_asg ?_ | refine ws_for ?_ | refine ws_if ?_ | refine we_2 ?_ | refine we_1 ?_ | refine we_n ?_ | refine we_3 ?_ | refine we_c ?_ | refine wo_none ?_ | refine wo_some ?_ | refine wl_cons ?_ | refine wl_nil ?_ | refine we_V ?_ | refine we_own ?_ | refine we_tup ?_ | refine wl_lst ?_ | refine wt_of ?_ | refine wt_or ?_ | refine wt_and ?_ | refine wt_not ?_ | refine we_and ?_ | refine we_or ?_ | refine we_not ?_ | refine we_if ?_ | refine we_isN ?_ | refine we_notN ?_ | refine we_chain ?_ | refine wt_yes ?_ | refine wi_L ?_ | refine wi_T ?_ | refine wi_S ?_ | refine wi_R1 ?_ | refine wi_R2 ?_ | refine wi_R3 ?_ | refine wi_E ?_ | refine we_call ?_ | refine we_callF ?_ | refine we_bm ?_ | refine wg_sb ?_ | refine we_m1 ?_ | refine we_rev ?_ | refine wo_add ?_ | refine wo_sub ?_ | refine wo_neg ?_ | refine wo_cmp ?_ | refine wo_eqI ?_ | refine wo_neI ?_ | refine wo_eqS ?_ | refine wo_neS ?_ | refine wo_eqB ?_ | refine wo_neB ?_ | refine wo_lenL ?_ | refine wo_lenT ?_ | refine wo_lenC ?_ | refine wo_max ?_ | refine wo_min ?_ | refine wo_slL ?_ | refine wo_listC ?_ | refine wo_listL ?_ | refine wo_listT ?_ | refine wo_tupT ?_ | refine wo_tupL ?_ | refine wo_intI ?_ | refine wo_intB ?_ | refine wo_strS ?_ | refine wo_inS ?_ | refine wo_ninS ?_) | ((with_reducible apply we_var); rfl) | ((with_reducible apply ws_frz); rfl) | ((with_reducible apply ws_app); rfl) | ((with_reducible apply ws_extend); rfl) | ((with_reducible apply ws_retA); rfl) | ((with_reducible apply ws_frz0); rfl) | ((with_reducible apply wo_isT); rfl; rfl) | (refine ⟨Nat.le_of_ble_eq_true rfl, ?_⟩) | (with_reducible refine ⟨_, rfl, ?_⟩) | (with_reducible refine wg_nm (Nat.le_of_ble_eq_true rfl) ?_) | (refine ⟨⟨Nat.le_of_ble_eq_true rfl, Nat.le_of_ble_eq_true rfl⟩, ?_⟩) | (with_reducible refine Or.inl ⟨_, rfl, ?_⟩) | (with_reducible refine Or.inr ⟨_, rfl, ?_⟩))
      refine ⟨fun z => (nomatch z), fun _ => ?_⟩
      repeat (first | with_reducible (first | refine ws_seq ?_ | refine nxt_nx ?_ | refine lp_nx ?_ | refine lp_ct ?_ | refine lp_bk ?_ | refine lp_rt ?_ | refine lp_rf ?_ | refine nxt_rt ?_ | refine nxt_rf ?_ | refine nxt_bk ?_ | refine nxt_ct ?_ | refine end_nx ?_ | refine end_rt ?_ | refine end_rf ?_ | refine ws_next ?_ | refine ws_brk ?_ | refine ws_cnt ?_ | refine ws_do ?_ | refine ws_ret ?_ | refine ws_retF ?_ | refine ws_retN ?_ | refine ws_set ?_ | refine ws_acc ?_ | refine ws_par ?_ | refine ws_asg ?_ | refine ws_for ?_ | refine ws_if ?_ | refine we_2 ?_ | refine we_1 ?_ | refine we_n ?_ | refine we_3 ?_ | refine we_c ?_ | refine wo_none ?_ | refine wo_some ?_ | refine wl_cons ?_ | refine wl_nil ?_ | refine we_V ?_ | refine we_own ?_ | refine we_tup ?_ | refine wl_lst ?_ | refine wt_of ?_ | refine wt_or ?_ | refine wt_and ?_ | refine wt_not ?_ | refine we_and ?_ | refine we_or ?_ | refine we_not ?_ | refine we_if ?_ | refine we_isN ?_ | refine we_notN ?_ | refine we_chain ?_ | refine wt_yes ?_ | refine wi_L ?_ | refine wi_T ?_ | refine wi_S ?_ | refine wi_R1 ?_ | refine wi_R2 ?_ | refine wi_R3 ?_ | refine wi_E ?_ | refine we_call ?_ | refine we_callF ?_ | refine we_bm ?_ | refine wg_sb ?_ | refine we_m1 ?_ | refine we_rev ?_ | refine wo_add ?_ | refine wo_sub ?_ | refine wo_neg ?_ | refine wo_cmp ?_ | refine wo_eqI ?_ | refine wo_neI ?_ | refine wo_eqS ?_ | refine wo_neS ?_ | refine wo_eqB ?_ | refine wo_neB ?_ | refine wo_lenL ?_ | refine wo_lenT ?_ | refine wo_lenC ?_ | refine wo_max ?_ | refine wo_min ?_ | refine wo_slL ?_ | refine wo_listC ?_ | refine wo_listL ?_ | refine wo_listT ?_ | refine wo_tupT ?_ | refine wo_tupL ?_ | refine wo_intI ?_ | refine wo_intB ?_ | refine wo_strS ?_ | refine wo_inS ?_ | refine wo_ninS ?_) | ((with_reducible apply we_var); rfl) | ((with_reducible apply ws_frz); rfl) | ((with_reducible apply ws_app); rfl) | ((with_reducible apply ws_extend); rfl) | ((with_reducible apply ws_retA); rfl) | ((with_reducible apply ws_frz0); rfl) | ((with_reducible apply wo_isT); rfl; rfl) | (refine ⟨Nat.le_of_ble_eq_true rfl, ?_⟩) | (with_reducible refine ⟨_, rfl, ?_⟩) | (with_reducible refine wg_nm (Nat.le_of_ble_eq_true rfl) ?_) | (refine ⟨⟨Nat.le_of_ble_eq_true rfl, Nat.le_of_ble_eq_true rfl⟩, ?_⟩) | (with_reducible refine Or.inl ⟨_, rfl, ?_⟩) | (with_reducible refine Or.inr ⟨_, rfl, ?_⟩))
      refine wo_isT rfl tb ?_
      repeat (first | with_reducible (first | refine ws_seq ?_ | refine nxt_nx ?_ | refine lp_nx ?_ | refine lp_ct ?_ | refine lp_bk ?_ | refine lp_rt ?_ | refine lp_rf ?_ | refine nxt_rt ?_ | refine nxt_rf ?_ | refine nxt_bk ?_ | refine nxt_ct ?_ | refine end_nx ?_ | refine end_rt ?_ | refine end_rf ?_ | refine ws_next ?_ | refine ws_brk ?_ | refine ws_cnt ?_ | refine ws_do ?_ | refine ws_ret ?_ | refine ws_retF ?_ | refine ws_retN ?_ | refine ws_set ?_ | refine ws_acc ?_ | refine ws_par ?_ | refine ws_asg ?_ | refine ws_for ?_ | refine ws_if ?_ | refine we_2 ?_ | refine we_1 ?_ | refine we_n ?_ | refine we_3 ?_ | refine we_c ?_ | refine wo_none ?_ | refine wo_some ?_ | refine wl_cons ?_ | refine wl_nil ?_ | refine we_V ?_ | refine we_own ?_ | refine we_tup ?_ | refine wl_lst ?_ | refine wt_of ?_ | refine wt_or ?_ | refine wt_and ?_ | refine wt_not ?_ | refine we_and ?_ | refine we_or ?_ | refine we_not ?_ | refine we_if ?_ | refine we_isN ?_ | refine we_notN ?_ | refine we_chain ?_ | refine wt_yes ?_ | refine wi_L ?_ | refine wi_T ?_ | refine wi_S ?_ | refine wi_R1 ?_ | refine wi_R2 ?_ | refine wi_R3 ?_ | refine wi_E ?_ | refine we_call ?_ | refine we_callF ?_ | refine we_bm ?_ | refine wg_sb ?_ | refine we_m1 ?_ | refine we_rev ?_ | refine wo_add ?_ | refine wo_sub ?_ | refine wo_neg ?_ | refine wo_cmp ?_ | refine wo_eqI ?_ | refine wo_neI ?_ | refine wo_eqS ?_ | refine wo_neS ?_ | refine wo_eqB ?_ | refine wo_neB ?_ | refine wo_lenL ?_ | refine wo_lenT ?_ | refine wo_lenC ?_ | refine wo_max ?_ | refine wo_min ?_ | refine wo_slL ?_ | refine wo_listC ?_ | refine wo_listL ?_ | refine wo_listT ?_ | refine wo_tupT ?_ | refine wo_tupL ?_ | refine wo_intI ?_ | refine wo_intB ?_ | refine wo_strS ?_ | refine wo_inS ?_ | refine wo_ninS ?_) | ((with_reducible apply we_var); rfl) | ((with_reducible apply ws_frz); rfl) | ((with_reducible apply ws_app); rfl) | ((with_reducible apply ws_extend); rfl) | ((with_reducible apply ws_retA); rfl) | ((with_reducible apply ws_frz0); rfl) | ((with_reducible apply wo_isT); rfl; rfl) | (refine ⟨Nat.le_of_ble_eq_true rfl, ?_⟩) | (with_reducible refine ⟨_, rfl, ?_⟩) | (with_reducible refine wg_nm (Nat.le_of_ble_eq_true rfl) ?_) | (refine ⟨⟨Nat.le_of_ble_eq_true rfl, Nat.le_of_ble_eq_true rfl⟩, ?_⟩) | (with_reducible refine Or.inl ⟨_, rfl, ?_⟩) | (with_reducible refine Or.inr ⟨_, rfl, ?_⟩))
      refine ⟨fun z => (nomatch z), fun _ => ?_⟩
      repeat (first | with_reducible (first | refine ws_seq ?_ | refine nxt_nx ?_ | refine lp_nx ?_ | refine lp_ct ?_ | refine lp_bk ?_ | refine lp_rt ?_ | refine lp_rf ?_ | refine nxt_rt ?_ | refine nxt_rf ?_ | refine nxt_bk ?_ | refine nxt_ct ?_ | refine end_nx ?_ | refine end_rt ?_ | refine end_rf ?_ | refine ws_next ?_ | refine ws_brk ?_ | refine ws_cnt ?_ | refine ws_do ?_ | refine ws_ret ?_ | refine ws_retF ?_ | refine ws_retN ?_ | refine ws_set ?_ | refine ws_acc ?_ | refine ws_par ?_ | refine ws_asg ?_ | refine ws_for ?_ | refine ws_if ?_ | refine we_2 ?_ | refine we_1 ?_ | refine we_n ?_ | refine we_3 ?_ | refine we_c ?_ | refine wo_none ?_ | refine wo_some ?_ | refine wl_cons ?_ | refine wl_nil ?_ | refine we_V ?_ | refine we_own ?_ | refine we_tup ?_ | refine wl_lst ?_ | refine wt_of ?_ | refine wt_or ?_ | refine wt_and ?_ | refine wt_not ?_ | refine we_and ?_ | refine we_or ?_ | refine we_not ?_ | refine we_if ?_ | refine we_isN ?_ | refine we_notN ?_ | refine we_chain ?_ | refine wt_yes ?_ | refine wi_L ?_ | refine wi_T ?_ | refine wi_S ?_ | refine wi_R1 ?_ | refine wi_R2 ?_ | refine wi_R3 ?_ | refine wi_E ?_ | refine we_call ?_ | refine we_callF ?_ | refine we_bm ?_ | refine wg_sb ?_ | refine we_m1 ?_ | refine we_rev ?_ | refine wo_add ?_ | refine wo_sub ?_ | refine wo_neg ?_ | refine wo_cmp ?_ | refine wo_eqI ?_ | refine wo_neI ?_ | refine wo_eqS ?_ | refine wo_neS ?_ | refine wo_eqB ?_ | refine wo_neB ?_ | refine wo_lenL ?_ | refine wo_lenT ?_ | refine wo_lenC ?_ | refine wo_max ?_ | refine wo_min ?_ | refine wo_slL ?_ | refine wo_listC ?_ | refine wo_listL ?_ | refine wo_listT ?_ | refine wo_tupT ?_ | refine wo_tupL ?_ | refine wo_intI ?_ | refine wo_intB ?_ | refine wo_strS ?_ | refine wo_inS ?_ | refine wo_ninS ?_) | ((with_reducible apply we_var); rfl) | ((with_reducible apply ws_frz); rfl) | ((with_reducible apply ws_app); rfl) | ((with_reducible apply ws_extend); rfl) | ((with_reducible apply ws_retA); rfl) | ((with_reducible apply ws_frz0); rfl) | ((with_reducible apply wo_isT); rfl; rfl) | (refine ⟨Nat.le_of_ble_eq_true rfl, ?_⟩) | (with_reducible refine ⟨_, rfl, ?_⟩) | (with_reducible refine wg_nm (Nat.le_of_ble_eq_true rfl) ?_) | (refine ⟨⟨Nat.le_of_ble_eq_true rfl, Nat.le_of_ble_eq_true rfl⟩, ?_⟩) | (with_reducible refine Or.inl ⟨_, rfl, ?_⟩) | (with_reducible refine Or.inr ⟨_, rfl, ?_⟩))
      refine wo_isT rfl tb ?_
      repeat (first | with_reducible (first | refine ws_seq ?_ | refine nxt_nx ?_ | refine lp_nx ?_ | refine lp_ct ?_ | refine lp_bk ?_ | refine lp_rt ?_ | refine lp_rf ?_ | refine nxt_rt ?_ | refine nxt_rf ?_ | refine nxt_bk ?_ | refine nxt_ct ?_ | refine end_nx ?_ | refine end_rt ?_ | refine end_rf ?_ | refine ws_next ?_ | refine ws_brk ?_ | refine ws_cnt ?_ | refine ws_do ?_ | refine ws_ret ?_ | refine ws_retF ?_ | refine ws_retN ?_ | refine ws_set ?_ | refine ws_acc ?_ | refine ws_par ?_ | refine ws_asg ?_ | refine ws_for ?_ | refine ws_if ?_ | refine we_2 ?_ | refine we_1 ?_ | refine we_n ?_ | refine we_3 ?_ | refine we_c ?_ | refine wo_none ?_ | refine wo_some ?_ | refine wl_cons ?_ | refine wl_nil ?_ | refine we_V ?_ | refine we_own ?_ | refine we_tup ?_ | refine wl_lst ?_ | refine wt_of ?_ | refine wt_or ?_ | refine wt_and ?_ | refine wt_not ?_ | refine we_and ?_ | refine we_or ?_ | refine we_not ?_ | refine we_if ?_ | refine we_isN ?_ | refine we_notN ?_ | refine we_chain ?_ | refine wt_yes ?_ | refine wi_L ?_ | refine wi_T ?_ | refine wi_S ?_ | refine wi_R1 ?_ | refine wi_R2 ?_ | refine wi_R3 ?_ | refine wi_E ?_ | refine we_call ?_ | refine we_callF ?_ | refine we_bm ?_ | refine wg_sb ?_ | refine we_m1 ?_ | refine we_rev ?_ | refine wo_add ?_ | refine wo_sub ?_ | refine wo_neg ?_ | refine wo_cmp ?_ | refine wo_eqI ?_ | refine wo_neI ?_ | refine wo_eqS ?_ | refine wo_neS ?_ | refine wo_eqB ?_ | refine wo_neB ?_ | refine wo_lenL ?_ | refine wo_lenT ?_ | refine wo_lenC ?_ | refine wo_max ?_ | refine wo_min ?_ | refine wo_slL ?_ | refine wo_listC ?_ | refine wo_listL ?_ | refine wo_listT ?_ | refine wo_tupT ?_ | refine wo_tupL ?_ | refine wo_intI ?_ | refine wo_intB ?_ | refine wo_strS ?_ | refine wo_inS ?_ | refine wo_ninS ?_) | ((with_reducible apply we_var); rfl) | ((with_reducible apply ws_frz); rfl) | ((with_reducible apply ws_app); rfl) | ((with_reducible apply ws_extend); rfl) | ((with_reducible apply ws_retA); rfl) | ((with_reducible apply ws_frz0); rfl) | ((with_reducible apply wo_isT); rfl; rfl) | (refine ⟨Nat.le_of_ble_eq_true rfl, ?_⟩) | (with_reducible refine ⟨_, rfl, ?_⟩) | (with_reducible refine wg_nm (Nat.le_of_ble_eq_true rfl) ?_) | (refine ⟨⟨Nat.le_of_ble_eq_true rfl, Nat.le_of_ble_eq_true rfl⟩, ?_⟩) | (with_reducible refine Or.inl ⟨_, rfl, ?_⟩) | (with_reducible refine Or.inr ⟨_, rfl, ?_⟩))
      refine ⟨fun z => (nomatch z), fun _ => ?_⟩
      repeat (first | with_reducible (first | refine ws_seq ?_ | refine nxt_nx ?_ | refine lp_nx ?_ | refine lp_ct ?_ | refine lp_bk ?_ | refine lp_rt ?_ | refine lp_rf ?_ | refine nxt_rt ?_ | refine nxt_rf ?_ | refine nxt_bk ?_ | refine nxt_ct ?_ | refine end_nx ?_ | refine end_rt ?_ | refine end_rf ?_ | refine ws_next ?_ | refine ws_brk ?_ | refine ws_cnt ?_ | refine ws_do ?_ | refine ws_ret ?_ | refine ws_retF ?_ | refine ws_retN ?_ | refine ws_set ?_ | refine ws_acc ?_ | refine ws_par ?_ | refine ws_asg ?_ | refine ws_for ?_ | refine ws_if ?_ | refine we_2 ?_ | refine we_1 ?_ | refine we_n ?_ | refine we_3 ?_ | refine we_c ?_ | refine wo_none ?_ | refine wo_some ?_ | refine wl_cons ?_ | refine wl_nil ?_ | refine we_V ?_ | refine we_own ?_ | refine we_tup ?_ | refine wl_lst ?_ | refine wt_of ?_ | refine wt_or ?_ | refine wt_and ?_ | refine wt_not ?_ | refine we_and ?_ | refine we_or ?_ | refine we_not ?_ | refine we_if ?_ | refine we_isN ?_ | refine we_notN ?_ | refine we_chain ?_ | refine wt_yes ?_ | refine wi_L ?_ | refine wi_T ?_ | refine wi_S ?_ | refine wi_R1 ?_ | refine wi_R2 ?_ | refine wi_R3 ?_ | refine wi_E ?_ | refine we_call ?_ | refine we_callF ?_ | refine we_bm ?_ | refine wg_sb ?_ | refine we_m1 ?_ | refine we_rev ?_ | refine wo_add ?_ | refine wo_sub ?_ | refine wo_neg ?_ | refine wo_cmp ?_ | refine wo_eqI ?_ | refine wo_neI ?_ | refine wo_eqS ?_ | refine wo_neS ?_ | refine wo_eqB ?_ | refine wo_neB ?_ | refine wo_lenL ?_ | refine wo_lenT ?_ | refine wo_lenC ?_ | refine wo_max ?_ | refine wo_min ?_ | refine wo_slL ?_ | refine wo_listC ?_ | refine wo_listL ?_ | refine wo_listT ?_ | refine wo_tupT ?_ | refine wo_tupL ?_ | refine wo_intI ?_ | refine wo_intB ?_ | refine wo_strS ?_ | refine wo_inS ?_ | refine wo_ninS ?_) | ((with_reducible apply we_var); rfl) | ((with_reducible apply ws_frz); rfl) | ((with_reducible apply ws_app); rfl) | ((with_reducible apply ws_extend); rfl) | ((with_reducible apply ws_retA); rfl) | ((with_reducible apply ws_frz0); rfl) | ((with_reducible apply wo_isT); rfl; rfl) | (refine ⟨Nat.le_of_ble_eq_true rfl, ?_⟩) | (with_reducible refine ⟨_, rfl, ?_⟩) | (with_reducible refine wg_nm (Nat.le_of_ble_eq_true rfl) ?_) | (refine ⟨⟨Nat.le_of_ble_eq_true rfl, Nat.le_of_ble_eq_true rfl⟩, ?_⟩) | (with_reducible refine Or.inl ⟨_, rfl, ?_⟩) | (with_reducible refine Or.inr ⟨_, rfl, ?_⟩))
      refine wo_isT rfl tb ?_
      repeat (first | with_reducible (first | refine ws_seq ?_ | refine nxt_nx ?_ | refine lp_nx ?_ | refine lp_ct ?_ | refine lp_bk ?_ | refine lp_rt ?_ | refine lp_rf ?_ | refine nxt_rt ?_ | refine nxt_rf ?_ | refine nxt_bk ?_ | refine nxt_ct ?_ | refine end_nx ?_ | refine end_rt ?_ | refine end_rf ?_ | refine ws_next ?_ | refine ws_brk ?_ | refine ws_cnt ?_ | refine ws_do ?_ | refine ws_ret ?_ | refine ws_retF ?_ | refine ws_retN ?_ | refine ws_set ?_ | refine ws_acc ?_ | refine ws_par ?_ | refine ws_asg ?_ | refine ws_for ?_ | refine ws_if ?_ | refine we_2 ?_ | refine we_1 ?_ | refine we_n ?_ | refine we_3 ?_ | refine we_c ?_ | refine wo_none ?_ | refine wo_some ?_ | refine wl_cons ?_ | refine wl_nil ?_ | refine we_V ?_ | refine we_own ?_ | refine we_tup ?_ | refine wl_lst ?_ | refine wt_of ?_ | refine wt_or ?_ | refine wt_and ?_ | refine wt_not ?_ | refine we_and ?_ | refine we_or ?_ | refine we_not ?_ | refine we_if ?_ | refine we_isN ?_ | refine we_notN ?_ | refine we_chain ?_ | refine wt_yes ?_ | refine wi_L ?_ | refine wi_T ?_ | refine wi_S ?_ | refine wi_R1 ?_ | refine wi_R2 ?_ | refine wi_R3 ?_ | refine wi_E ?_ | refine we_call ?_ | refine we_callF ?_ | refine we_bm ?_ | refine wg_sb ?_ | refine we_m1 ?_ | refine we_rev ?_ | refine wo_add ?_ | refine wo_sub ?_ | refine wo_neg ?_ | refine wo_cmp ?_ | refine wo_eqI ?_ | refine wo_neI ?_ | refine wo_eqS ?_ | refine wo_neS ?_ | refine wo_eqB ?_ | refine wo_neB ?_ | refine wo_lenL ?_ | refine wo_lenT ?_ | refine wo_lenC ?_ | refine wo_max ?_ | refine wo_min ?_ | refine wo_slL ?_ | refine wo_listC ?_ | refine wo_listL ?_ | refine wo_listT ?_ | refine wo_tupT ?_ | refine wo_tupL ?_ | refine wo_intI ?_ | refine wo_intB ?_ | refine wo_strS ?_ | refine wo_inS ?_ | refine wo_ninS ?_) | ((with_reducible apply we_var); rfl) | ((with_reducible apply ws_frz); rfl) | ((with_reducible apply ws_app); rfl) | ((with_reducible apply ws_extend); rfl) | ((with_reducible apply ws_retA); rfl) | ((with_reducible apply ws_frz0); rfl) | ((with_reducible apply wo_isT); rfl; rfl) | (refine ⟨Nat.le_of_ble_eq_true rfl, ?_⟩) | (with_reducible refine ⟨_, rfl, ?_⟩) | (with_reducible refine wg_nm (Nat.le_of_ble_eq_true rfl) ?_) | (refine ⟨⟨Nat.le_of_ble_eq_true rfl, Nat.le_of_ble_eq_true rfl⟩, ?_⟩) | (with_reducible refine Or.inl ⟨_, rfl, ?_⟩) | (with_reducible refine Or.inr ⟨_, rfl, ?_⟩))
      refine ⟨fun z => (nomatch z), fun _ => ?_⟩
      repeat (first | with_reducible (first | refine ws_seq ?_ | refine nxt_nx ?_ | refine lp_nx ?_ | refine lp_ct ?_ | refine lp_bk ?_ | refine lp_rt ?_ | refine lp_rf ?_ | refine nxt_rt ?_ | refine nxt_rf ?_ | refine nxt_bk ?_ | refine nxt_ct ?_ | refine end_nx ?_ | refine end_rt ?_ | refine end_rf ?_ | refine ws_next ?_ | refine ws_brk ?_ | refine ws_cnt ?_ | refine ws_do ?_ | refine ws_ret ?_ | refine ws_retF ?_ | refine ws_retN ?_ | refine ws_set ?_ | refine ws_acc ?_ | refine ws_par ?_ | refine ws_asg ?_ | refine ws_for ?_ | refine ws_if ?_ | refine we_2 ?_ | refine we_1 ?_ | refine we_n ?_ | refine we_3 ?_ | refine we_c ?_ | refine wo_none ?_ | refine wo_some ?_ | refine wl_cons ?_ | refine wl_nil ?_ | refine we_V ?_ | refine we_own ?_ | refine we_tup ?_ | refine wl_lst ?_ | refine wt_of ?_ | refine wt_or ?_ | refine wt_and ?_ | refine wt_not ?_ | refine we_and ?_ | refine we_or ?_ | refine we_not ?_ | refine we_if ?_ | refine we_isN ?_ | refine we_notN ?_ | refine we_chain ?_ | refine wt_yes ?_ | refine wi_L ?_ | refine wi_T ?_ | refine wi_S ?_ | refine wi_R1 ?_ | refine wi_R2 ?_ | refine wi_R3 ?_ | refine wi_E ?_ | refine we_call ?_ | refine we_callF ?_ | refine we_bm ?_ | refine wg_sb ?_ | refine we_m1 ?_ | refine we_rev ?_ | refine wo_add ?_ | refine wo_sub ?_ | refine wo_neg ?_ | refine wo_cmp ?_ | refine wo_eqI ?_ | refine wo_neI ?_ | refine wo_eqS ?_ | refine wo_neS ?_ | refine wo_eqB ?_ | refine wo_neB ?_ | refine wo_lenL ?_ | refine wo_lenT ?_ | refine wo_lenC ?_ | refine wo_max ?_ | refine wo_min ?_ | refine wo_slL ?_ | refine wo_listC ?_ | refine wo_listL ?_ | refine wo_listT ?_ | refine wo_tupT ?_ | refine wo_tupL ?_ | refine wo_intI ?_ | refine wo_intB ?_ | refine wo_strS ?_ | refine wo_inS ?_ | refine wo_ninS ?_) | ((with_reducible apply we_var); rfl) | ((with_reducible apply ws_frz); rfl) | ((with_reducible apply ws_app); rfl) | ((with_reducible apply ws_extend); rfl) | ((with_reducible apply ws_retA); rfl) | ((with_reducible apply ws_frz0); rfl) | ((with_reducible apply wo_isT); rfl; rfl) | (refine ⟨Nat.le_of_ble_eq_true rfl, ?_⟩) | (with_reducible refine ⟨_, rfl, ?_⟩) | (with_reducible refine wg_nm (Nat.le_of_ble_eq_true rfl) ?_) | (refine ⟨⟨Nat.le_of_ble_eq_true rfl, Nat.le_of_ble_eq_true rfl⟩, ?_⟩) | (with_reducible refine Or.inl ⟨_, rfl, ?_⟩) | (with_reducible refine Or.inr ⟨_, rfl, ?_⟩))
      refine wo_isT rfl tb ?_
      repeat (first | with_reducible (first | refine ws_seq ?_ | refine nxt_nx ?_ | refine lp_nx ?_ | refine lp_ct ?_ | refine lp_bk ?_ | refine lp_rt ?_ | refine lp_rf ?_ | refine nxt_rt ?_ | refine nxt_rf ?_ | refine nxt_bk ?_ | refine nxt_ct ?_ | refine end_nx ?_ | refine end_rt ?_ | refine end_rf ?_ | refine ws_next ?_ | refine ws_brk ?_ | refine ws_cnt ?_ | refine ws_do ?_ | refine ws_ret ?_ | refine ws_retF ?_ | refine ws_retN ?_ | refine ws_set ?_ | refine ws_acc ?_ | refine ws_par ?_ | refine ws_asg ?_ | refine ws_for ?_ | refine ws_if ?_ | refine we_2 ?_ | refine we_1 ?_ | refine we_n ?_ | refine we_3 ?_ | refine we_c ?_ | refine wo_none ?_ | refine wo_some ?_ | refine wl_cons ?_ | refine wl_nil ?_ | refine we_V ?_ | refine we_own ?_ | refine we_tup ?_ | refine wl_lst ?_ | refine wt_of ?_ | refine wt_or ?_ | refine wt_and ?_ | refine wt_not ?_ | refine we_and ?_ | refine we_or ?_ | refine we_not ?_ | refine we_if ?_ | refine we_isN ?_ | refine we_notN ?_ | refine we_chain ?_ | refine wt_yes ?_ | refine wi_L ?_ | refine wi_T ?_ | refine wi_S ?_ | refine wi_R1 ?_ | refine wi_R2 ?_ | refine wi_R3 ?_ | refine wi_E ?_ | refine we_call ?_ | refine we_callF ?_ | refine we_bm ?_ | refine wg_sb ?_ | refine we_m1 ?_ | refine we_rev ?_ | refine wo_add ?_ | refine wo_sub ?_ | refine wo_neg ?_ | refine wo_cmp ?_ | refine wo_eqI ?_ | refine wo_neI ?_ | refine wo_eqS ?_ | refine wo_neS ?_ | refine wo_eqB ?_ | refine wo_neB ?_ | refine wo_lenL ?_ | refine wo_lenT ?_ | refine wo_lenC ?_ | refine wo_max ?_ | refine wo_min ?_ | refine wo_slL ?_ | refine wo_listC ?_ | refine wo_listL ?_ | refine wo_listT ?_ | refine wo_tupT ?_ | refine wo_tupL ?_ | refine wo_intI ?_ | refine wo_intB ?_ | refine wo_strS ?_ | refine wo_inS ?_ | refine wo_ninS ?_) | ((with_reducible apply we_var); rfl) | ((with_reducible apply ws_frz); rfl) | ((with_reducible apply ws_app); rfl) | ((with_reducible apply ws_extend); rfl) | ((with_reducible apply ws_retA); rfl) | ((with_reducible apply ws_frz0); rfl) | ((with_reducible apply wo_isT); rfl; rfl) | (refine ⟨Nat.le_of_ble_eq_true rfl, ?_⟩) | (with_reducible refine ⟨_, rfl, ?_⟩) | (with_reducible refine wg_nm (Nat.le_of_ble_eq_true rfl) ?_) | (refine ⟨⟨Nat.le_of_ble_eq_true rfl, Nat.le_of_ble_eq_true rfl⟩, ?_⟩) | (with_reducible refine Or.inl ⟨_, rfl, ?_⟩) | (with_reducible refine Or.inr ⟨_, rfl, ?_⟩))
      refine wo_isT rfl ta ?_
      repeat (first | with_reducible (first | refine ws_seq ?_ | refine nxt_nx ?_ | refine lp_nx ?_ | refine lp_ct ?_ | refine lp_bk ?_ | refine lp_rt ?_ | refine lp_rf ?_ | refine nxt_rt ?_ | refine nxt_rf ?_ | refine nxt_bk ?_ | refine nxt_ct ?_ | refine end_nx ?_ | refine end_rt ?_ | refine end_rf ?_ | refine ws_next ?_ | refine ws_brk ?_ | refine ws_cnt ?_ | refine ws_do ?_ | refine ws_ret ?_ | refine ws_retF ?_ | refine ws_retN ?_ | refine ws_set ?_ | refine ws_acc ?_ | refine ws_par ?_ | refine ws_asg ?_ | refine ws_for ?_ | refine ws_if ?_ | refine we_2 ?_ | refine we_1 ?_ | refine we_n ?_ | refine we_3 ?_ | refine we_c ?_ | refine wo_none ?_ | refine wo_some ?_ | refine wl_cons ?_ | refine wl_nil ?_ | refine we_V ?_ | refine we_own ?_ | refine we_tup ?_ | refine wl_lst ?_ | refine wt_of ?_ | refine wt_or ?_ | refine wt_and ?_ | refine wt_not ?_ | refine we_and ?_ | refine we_or ?_ | refine we_not ?_ | refine we_if ?_ | refine we_isN ?_ | refine we_notN ?_ | refine we_chain ?_ | refine wt_yes ?_ | refine wi_L ?_ | refine wi_T ?_ | refine wi_S ?_ | refine wi_R1 ?_ | refine wi_R2 ?_ | refine wi_R3 ?_ | refine wi_E ?_ | refine we_call ?_ | refine we_callF ?_ | refine we_bm ?_ | refine wg_sb ?_ | refine we_m1 ?_ | refine we_rev ?_ | refine wo_add ?_ | refine wo_sub ?_ | refine wo_neg ?_ | refine wo_cmp ?_ | refine wo_eqI ?_ | refine wo_neI ?_ | refine wo_eqS ?_ | refine wo_neS ?_ | refine wo_eqB ?_ | refine wo_neB ?_ | refine wo_lenL ?_ | refine wo_lenT ?_ | refine wo_lenC ?_ | refine wo_max ?_ | refine wo_min ?_ | refine wo_slL ?_ | refine wo_listC ?_ | refine wo_listL ?_ | refine wo_listT ?_ | refine wo_tupT ?_ | refine wo_tupL ?_ | refine wo_intI ?_ | refine wo_intB ?_ | refine wo_strS ?_ | refine wo_inS ?_ | refine wo_ninS ?_) | ((with_reducible apply we_var); rfl) | ((with_reducible apply ws_frz); rfl) | ((with_reducible apply ws_app); rfl) | ((with_reducible apply ws_extend); rfl) | ((with_reducible apply ws_retA); rfl) | ((with_reducible apply ws_frz0); rfl) | ((with_reducible apply wo_isT); rfl; rfl) | (refine ⟨Nat.le_of_ble_eq_true rfl, ?_⟩) | (with_reducible refine ⟨_, rfl, ?_⟩) | (with_reducible refine wg_nm (Nat.le_of_ble_eq_true rfl) ?_) | (refine ⟨⟨Nat.le_of_ble_eq_true rfl, Nat.le_of_ble_eq_true rfl⟩, ?_⟩) | (with_reducible refine Or.inl ⟨_, rfl, ?_⟩) | (with_reducible refine Or.inr ⟨_, rfl, ?_⟩))
      refine ⟨fun z => (nomatch z), fun _ => ?_⟩
      repeat (first | with_reducible (first | refine ws_seq ?_ | refine nxt_nx ?_ | refine lp_nx ?_ | refine lp_ct ?_ | refine lp_bk ?_ | refine lp_rt ?_ | refine lp_rf ?_ | refine nxt_rt ?_ | refine nxt_rf ?_ | refine nxt_bk ?_ | refine nxt_ct ?_ | refine end_nx ?_ | refine end_rt ?_ | refine end_rf ?_ | refine ws_next ?_ | refine ws_brk ?_ | refine ws_cnt ?_ | refine ws_do ?_ | refine ws_ret ?_ | refine ws_retF ?_ | refine ws_retN ?_ | refine ws_set ?_ | refine ws_acc ?_ | refine ws_par ?_ | refine ws_asg ?_ | refine ws_for ?_ | refine ws_if ?_ | refine we_2 ?_ | refine we_1 ?_ | refine we_n ?_ | refine we_3 ?_ | refine we_c ?_ | refine wo_none ?_ | refine wo_some ?_ | refine wl_cons ?_ | refine wl_nil ?_ | refine we_V ?_ | refine we_own ?_ | refine we_tup ?_ | refine wl_lst ?_ | refine wt_of ?_ | refine wt_or ?_ | refine wt_and ?_ | refine wt_not ?_ | refine we_and ?_ | refine we_or ?_ | refine we_not ?_ | refine we_if ?_ | refine we_isN ?_ | refine we_notN ?_ | refine we_chain ?_ | refine wt_yes ?_ | refine wi_L ?_ | refine wi_T ?_ | refine wi_S ?_ | refine wi_R1 ?_ | refine wi_R2 ?_ | refine wi_R3 ?_ | refine wi_E ?_ | refine we_call ?_ | refine we_callF ?_ | refine we_bm ?_ | refine wg_sb ?_ | refine we_m1 ?_ | refine we_rev ?_ | refine wo_add ?_ | refine wo_sub ?_ | refine wo_neg ?_ | refine wo_cmp ?_ | refine wo_eqI ?_ | refine wo_neI ?_ | refine wo_eqS ?_ | refine wo_neS ?_ | refine wo_eqB ?_ | refine wo_neB ?_ | refine wo_lenL ?_ | refine wo_lenT ?_ | refine wo_lenC ?_ | refine wo_max ?_ | refine wo_min ?_ | refine wo_slL ?_ | refine wo_listC ?_ | refine wo_listL ?_ | refine wo_listT ?_ | refine wo_tupT ?_ | refine wo_tupL ?_ | refine wo_intI ?_ | refine wo_intB ?_ | refine wo_strS ?_ | refine wo_inS ?_ | refine wo_ninS ?_) | ((with_reducible apply we_var); rfl) | ((with_reducible apply ws_frz); rfl) | ((with_reducible apply ws_app); rfl) | ((with_reducible apply ws_extend); rfl) | ((with_reducible apply ws_retA); rfl) | ((with_reducible apply ws_frz0); rfl) | ((with_reducible apply wo_isT); rfl; rfl) | (refine ⟨Nat.le_of_ble_eq_true rfl, ?_⟩) | (with_reducible refine ⟨_, rfl, ?_⟩) | (with_reducible refine wg_nm (Nat.le_of_ble_eq_true rfl) ?_) | (refine ⟨⟨Nat.le_of_ble_eq_true rfl, Nat.le_of_ble_eq_true rfl⟩, ?_⟩) | (with_reducible refine Or.inl ⟨_, rfl, ?_⟩) | (with_reducible refine Or.inr ⟨_, rfl, ?_⟩))
      refine wo_isT rfl tb ?_
      repeat (first | with_reducible (first | refine ws_seq ?_ | refine nxt_nx ?_ | refine lp_nx ?_ | refine lp_ct ?_ | refine lp_bk ?_ | refine lp_rt ?_ | refine lp_rf ?_ | refine nxt_rt ?_ | refine nxt_rf ?_ | refine nxt_bk ?_ | refine nxt_ct ?_ | refine end_nx ?_ | refine end_rt ?_ | refine end_rf ?_ | refine ws_next ?_ | refine ws_brk ?_ | refine ws_cnt ?_ | refine ws_do ?_ | refine ws_ret ?_ | refine ws_retF ?_ | refine ws_retN ?_ | refine ws_set ?_ | refine ws_acc ?_ | refine ws_par ?_ | refine ws_asg ?_ | refine ws_for ?_ | refine ws_if ?_ | refine we_2 ?_ | refine we_1 ?_ | refine we_n ?_ | refine we_3 ?_ | refine we_c ?_ | refine wo_none ?_ | refine wo_some ?_ | refine wl_cons ?_ | refine wl_nil ?_ | refine we_V ?_ | refine we_own ?_ | refine we_tup ?_ | refine wl_lst ?_ | refine wt_of ?_ | refine wt_or ?_ | refine wt_and ?_ | refine wt_not ?_ | refine we_and ?_ | refine we_or ?_ | refine we_not ?_ | refine we_if ?_ | refine we_isN ?_ | refine we_notN ?_ | refine we_chain ?_ | refine wt_yes ?_ | refine wi_L ?_ | refine wi_T ?_ | refine wi_S ?_ | refine wi_R1 ?_ | refine wi_R2 ?_ | refine wi_R3 ?_ | refine wi_E ?_ | refine we_call ?_ | refine we_callF ?_ | refine we_bm ?_ | refine wg_sb ?_ | refine we_m1 ?_ | refine we_rev ?_ | refine wo_add ?_ | refine wo_sub ?_ | refine wo_neg ?_ | refine wo_cmp ?_ | refine wo_eqI ?_ | refine wo_neI ?_ | refine wo_eqS ?_ | refine wo_neS ?_ | refine wo_eqB ?_ | refine wo_neB ?_ | refine wo_lenL ?_ | refine wo_lenT ?_ | refine wo_lenC ?_ | refine wo_max ?_ | refine wo_min ?_ | refine wo_slL ?_ | refine wo_listC ?_ | refine wo_listL ?_ | refine wo_listT ?_ | refine wo_tupT ?_ | refine wo_tupL ?_ | refine wo_intI ?_ | refine wo_intB ?_ | refine wo_strS ?_ | refine wo_inS ?_ | refine wo_ninS ?_) | ((with_reducible apply we_var); rfl) | ((with_reducible apply ws_frz); rfl) | ((with_reducible apply ws_app); rfl) | ((with_reducible apply ws_extend); rfl) | ((with_reducible apply ws_retA); rfl) | ((with_reducible apply ws_frz0); rfl) | ((with_reducible apply wo_isT); rfl; rfl) | (refine ⟨Nat.le_of_ble_eq_true rfl, ?_⟩) | (with_reducible refine ⟨_, rfl, ?_⟩) | (with_reducible refine wg_nm (Nat.le_of_ble_eq_true rfl) ?_) | (refine ⟨⟨Nat.le_of_ble_eq_true rfl, Nat.le_of_ble_eq_true rfl⟩, ?_⟩) | (with_reducible refine Or.inl ⟨_, rfl, ?_⟩) | (with_reducible refine Or.inr ⟨_, rfl, ?_⟩))
      refine wo_isT rfl ta ?_
      repeat (first | with_reducible (first | refine ws_seq ?_ | refine nxt_nx ?_ | refine lp_nx ?_ | refine lp_ct ?_ | refine lp_bk ?_ | refine lp_rt ?_ | refine lp_rf ?_ | refine nxt_rt ?_ | refine nxt_rf ?_ | refine nxt_bk ?_ | refine nxt_ct ?_ | refine end_nx ?_ | refine end_rt ?_ | refine end_rf ?_ | refine ws_next ?_ | refine ws_brk ?_ | refine ws_cnt ?_ | refine ws_do ?_ | refine ws_ret ?_ | refine ws_retF ?_ | refine ws_retN ?_ | refine ws_set ?_ | refine ws_acc ?_ | refine ws_par ?_ | refine ws_asg ?_ | refine ws_for ?_ | refine ws_if ?_ | refine we_2 ?_ | refine we_1 ?_ | refine we_n ?_ | refine we_3 ?_ | refine we_c ?_ | refine wo_none ?_ | refine wo_some ?_ | refine wl_cons ?_ | refine wl_nil ?_ | refine we_V ?_ | refine we_own ?_ | refine we_tup ?_ | refine wl_lst ?_ | refine wt_of ?_ | refine wt_or ?_ | refine wt_and ?_ | refine wt_not ?_ | refine we_and ?_ | refine we_or ?_ | refine we_not ?_ | refine we_if ?_ | refine we_isN ?_ | refine we_notN ?_ | refine we_chain ?_ | refine wt_yes ?_ | refine wi_L ?_ | refine wi_T ?_ | refine wi_S ?_ | refine wi_R1 ?_ | refine wi_R2 ?_ | refine wi_R3 ?_ | refine wi_E ?_ | refine we_call ?_ | refine we_callF ?_ | refine we_bm ?_ | refine wg_sb ?_ | refine we_m1 ?_ | refine we_rev ?_ | refine wo_add ?_ | refine wo_sub ?_ | refine wo_neg ?_ | refine wo_cmp ?_ | refine wo_eqI ?_ | refine wo_neI ?_ | refine wo_eqS ?_ | refine wo_neS ?_ | refine wo_eqB ?_ | refine wo_neB ?_ | refine wo_lenL ?_ | refine wo_lenT ?_ | refine wo_lenC ?_ | refine wo_max ?_ | refine wo_min ?_ | refine wo_slL ?_ | refine wo_listC ?_ | refine wo_listL ?_ | refine wo_listT ?_ | refine wo_tupT ?_ | refine wo_tupL ?_ | refine wo_intI ?_ | refine wo_intB ?_ | refine wo_strS ?_ | refine wo_inS ?_ | refine wo_ninS ?_) | ((with_reducible apply we_var); rfl) | ((with_reducible apply ws_frz); rfl) | ((with_reducible apply ws_app); rfl) | ((with_reducible apply ws_extend); rfl) | ((with_reducible apply ws_retA); rfl) | ((with_reducible apply ws_frz0); rfl) | ((with_reducible apply wo_isT); rfl; rfl) | (refine ⟨Nat.le_of_ble_eq_true rfl, ?_⟩) | (with_reducible refine ⟨_, rfl, ?_⟩) | (with_reducible refine wg_nm (Nat.le_of_ble_eq_true rfl) ?_) | (refine ⟨⟨Nat.le_of_ble_eq_true rfl, Nat.le_of_ble_eq_true rfl⟩, ?_⟩) | (with_reducible refine Or.inl ⟨_, rfl, ?_⟩) | (with_reducible refine Or.inr ⟨_, rfl, ?_⟩))
      refine ⟨fun z => (nomatch z), fun _ => ?_⟩
      repeat (first | with_reducible (first | refine ws_seq ?_ | refine nxt_nx ?_ | refine lp_nx ?_ | refine lp_ct ?_ | refine lp_bk ?_ | refine lp_rt ?_ | refine lp_rf ?_ | refine nxt_rt ?_ | refine nxt_rf ?_ | refine nxt_bk ?_ | refine nxt_ct ?_ | refine end_nx ?_ | refine end_rt ?_ | refine end_rf ?_ | refine ws_next ?_ | refine ws_brk ?_ | refine ws_cnt ?_ | refine ws_do ?_ | refine ws_ret ?_ | refine ws_retF ?_ | refine ws_retN ?_ | refine ws_set ?_ | refine ws_acc ?_ | refine ws_par ?_ | refine ws_asg ?_ | refine ws_for ?_ | refine ws_if ?_ | refine we_2 ?_ | refine we_1 ?_ | refine we_n ?_ | refine we_3 ?_ | refine we_c ?_ | refine wo_none ?_ | refine wo_some ?_ | refine wl_cons ?_ | refine wl_nil ?_ | refine we_V ?_ | refine we_own ?_ | refine we_tup ?_ | refine wl_lst ?_ | refine wt_of ?_ | refine wt_or ?_ | refine wt_and ?_ | refine wt_not ?_ | refine we_and ?_ | refine we_or ?_ | refine we_not ?_ | refine we_if ?_ | refine we_isN ?_ | refine we_notN ?_ | refine we_chain ?_ | refine wt_yes ?_ | refine wi_L ?_ | refine wi_T ?_ | refine wi_S ?_ | refine wi_R1 ?_ | refine wi_R2 ?_ | refine wi_R3 ?_ | refine wi_E ?_ | refine we_call ?_ | refine we_callF ?_ | refine we_bm ?_ | refine wg_sb ?_ | refine we_m1 ?_ | refine we_rev ?_ | refine wo_add ?_ | refine wo_sub ?_ | refine wo_neg ?_ | refine wo_cmp ?_ | refine wo_eqI ?_ | refine wo_neI ?_ | refine wo_eqS ?_ | refine wo_neS ?_ | refine wo_eqB ?_ | refine wo_neB ?_ | refine wo_lenL ?_ | refine wo_lenT ?_ | refine wo_lenC ?_ | refine wo_max ?_ | refine wo_min ?_ | refine wo_slL ?_ | refine wo_listC ?_ | refine wo_listL ?_ | refine wo_listT ?_ | refine wo_tupT ?_ | refine wo_tupL ?_ | refine wo_intI ?_ | refine wo_intB ?_ | refine wo_strS ?_ | refine wo_inS ?_ | refine wo_ninS ?_) | ((with_reducible apply we_var); rfl) | ((with_reducible apply ws_frz); rfl) | ((with_reducible apply ws_app); rfl) | ((with_reducible apply ws_extend); rfl) | ((with_reducible apply ws_retA); rfl) | ((with_reducible apply ws_frz0); rfl) | ((with_reducible apply wo_isT); rfl; rfl) | (refine ⟨Nat.le_of_ble_eq_true rfl, ?_⟩) | (with_reducible refine ⟨_, rfl, ?_⟩) | (with_reducible refine wg_nm (Nat.le_of_ble_eq_true rfl) ?_) | (refine ⟨⟨Nat.le_of_ble_eq_true rfl, Nat.le_of_ble_eq_true rfl⟩, ?_⟩) | (with_reducible refine Or.inl ⟨_, rfl, ?_⟩) | (with_reducible refine Or.inr ⟨_, rfl, ?_⟩))
      refine wo_lenO h1 ?_
      repeat (first | with_reducible (first | refine ws_seq ?_ | refine nxt_nx ?_ | refine lp_nx ?_ | refine lp_ct ?_ | refine lp_bk ?_ | refine lp_rt ?_ | refine lp_rf ?_ | refine nxt_rt ?_ | refine nxt_rf ?_ | refine nxt_bk ?_ | refine nxt_ct ?_ | refine end_nx ?_ | refine end_rt ?_ | refine end_rf ?_ | refine ws_next ?_ | refine ws_brk ?_ | refine ws_cnt ?_ | refine ws_do ?_ | refine ws_ret ?_ | refine ws_retF ?_ | refine ws_retN ?_ | refine ws_set ?_ | refine ws_acc ?_ | refine ws_par ?_ | refine ws_asg ?_ | refine ws_for ?_ | refine ws_if ?_ | refine we_2 ?_ | refine we_1 ?_ | refine we_n ?_ | refine we_3 ?_ | refine we_c ?_ | refine wo_none ?_ | refine wo_some ?_ | refine wl_cons ?_ | refine wl_nil ?_ | refine we_V ?_ | refine we_own ?_ | refine we_tup ?_ | refine wl_lst ?_ | refine wt_of ?_ | refine wt_or ?_ | refine wt_and ?_ | refine wt_not ?_ | refine we_and ?_ | refine we_or ?_ | refine we_not ?_ | refine we_if ?_ | refine we_isN ?_ | refine we_notN ?_ | refine we_chain ?_ | refine wt_yes ?_ | refine wi_L ?_ | refine wi_T ?_ | refine wi_S ?_ | refine wi_R1 ?_ | refine wi_R2 ?_ | refine wi_R3 ?_ | refine wi_E ?_ | refine we_call ?_ | refine we_callF ?_ | refine we_bm ?_ | refine wg_sb ?_ | refine we_m1 ?_ | refine we_rev ?_ | refine wo_add ?_ | refine wo_sub ?_ | refine wo_neg ?_ | refine wo_cmp ?_ | refine wo_eqI ?_ | refine wo_neI ?_ | refine wo_eqS ?_ | refine wo_neS ?_ | refine wo_eqB ?_ | refine wo_neB ?_ | refine wo_lenL ?_ | refine wo_lenT ?_ | refine wo_lenC ?_ | refine wo_max ?_ | refine wo_min ?_ | refine wo_slL ?_ | refine wo_listC ?_ | refine wo_listL ?_ | refine wo_listT ?_ | refine wo_tupT ?_ | refine wo_tupL ?_ | refine wo_intI ?_ | refine wo_intB ?_ | refine wo_strS ?_ | refine wo_inS ?_ | refine wo_ninS ?_) | ((with_reducible apply we_var); rfl) | ((with_reducible apply ws_frz); rfl) | ((with_reducible apply ws_app); rfl) | ((with_reducible apply ws_extend); rfl) | ((with_reducible apply ws_retA); rfl) | ((with_reducible apply ws_frz0); rfl) | ((with_reducible apply wo_isT); rfl; rfl) | (refine ⟨Nat.le_of_ble_eq_true rfl, ?_⟩) | (with_reducible refine ⟨_, rfl, ?_⟩) | (with_reducible refine wg_nm (Nat.le_of_ble_eq_true rfl) ?_) | (refine ⟨⟨Nat.le_of_ble_eq_true rfl, Nat.le_of_ble_eq_true rfl⟩, ?_⟩) | (with_reducible refine Or.inl ⟨_, rfl, ?_⟩) | (with_reducible refine Or.inr ⟨_, rfl, ?_⟩))
      refine wo_lenO h2 ?_
      repeat (first | with_reducible (first | refine ws_seq ?_ | refine nxt_nx ?_ | refine lp_nx ?_ | refine lp_ct ?_ | refine lp_bk ?_ | refine lp_rt ?_ | refine lp_rf ?_ | refine nxt_rt ?_ | refine nxt_rf ?_ | refine nxt_bk ?_ | refine nxt_ct ?_ | refine end_nx ?_ | refine end_rt ?_ | refine end_rf ?_ | refine ws_next ?_ | refine ws_brk ?_ | refine ws_cnt ?_ | refine ws_do ?_ | refine ws_ret ?_ | refine ws_retF ?_ | refine ws_retN ?_ | refine ws_set ?_ | refine ws_acc ?_ | refine ws_par ?_ | refine ws_asg ?_ | refine ws_for ?_ | refine ws_if ?_ | refine we_2 ?_ | refine we_1 ?_ | refine we_n ?_ | refine we_3 ?_ | refine we_c ?_ | refine wo_none ?_ | refine wo_some ?_ | refine wl_cons ?_ | refine wl_nil ?_ | refine we_V ?_ | refine we_own ?_ | refine we_tup ?_ | refine wl_lst ?_ | refine wt_of ?_ | refine wt_or ?_ | refine wt_and ?_ | refine wt_not ?_ | refine we_and ?_ | refine we_or ?_ | refine we_not ?_ | refine we_if ?_ | refine we_isN ?_ | refine we_notN ?_ | refine we_chain ?_ | refine wt_yes ?_ | refine wi_L ?_ | refine wi_T ?_ | refine wi_S ?_ | refine wi_R1 ?_ | refine wi_R2 ?_ | refine wi_R3 ?_ | refine wi_E ?_ | refine we_call ?_ | refine we_callF ?_ | refine we_bm ?_ | refine wg_sb ?_ | refine we_m1 ?_ | refine we_rev ?_ | refine wo_add ?_ | refine wo_sub ?_ | refine wo_neg ?_ | refine wo_cmp ?_ | refine wo_eqI ?_ | refine wo_neI ?_ | refine wo_eqS ?_ | refine wo_neS ?_ | refine wo_eqB ?_ | refine wo_neB ?_ | refine wo_lenL ?_ | refine wo_lenT ?_ | refine wo_lenC ?_ | refine wo_max ?_ | refine wo_min ?_ | refine wo_slL ?_ | refine wo_listC ?_ | refine wo_listL ?_ | refine wo_listT ?_ | refine wo_tupT ?_ | refine wo_tupL ?_ | refine wo_intI ?_ | refine wo_intB ?_ | refine wo_strS ?_ | refine wo_inS ?_ | refine wo_ninS ?_) | ((with_reducible apply we_var); rfl) | ((with_reducible apply ws_frz); rfl) | ((with_reducible apply ws_app); rfl) | ((with_reducible apply ws_extend); rfl) | ((with_reducible apply ws_retA); rfl) | ((with_reducible apply ws_frz0); rfl) | ((with_reducible apply wo_isT); rfl; rfl) | (refine ⟨Nat.le_of_ble_eq_true rfl, ?_⟩) | (with_reducible refine ⟨_, rfl, ?_⟩) | (with_reducible refine wg_nm (Nat.le_of_ble_eq_true rfl) ?_) | (refine ⟨⟨Nat.le_of_ble_eq_true rfl, Nat.le_of_ble_eq_true rfl⟩, ?_⟩) | (with_reducible refine Or.inl ⟨_, rfl, ?_⟩) | (with_reducible refine Or.inr ⟨_, rfl, ?_⟩))
      refine ⟨fun z => ?_, fun _ => ?_⟩
      · simp [hl] at z
      repeat (first | with_reducible (first | refine ws_seq ?_ | refine nxt_nx ?_ | refine lp_nx ?_ | refine lp_ct ?_ | refine lp_bk ?_ | refine lp_rt ?_ | refine lp_rf ?_ | refine nxt_rt ?_ | refine nxt_rf ?_ | refine nxt_bk ?_ | refine nxt_ct ?_ | refine end_nx ?_ | refine end_rt ?_ | refine end_rf ?_ | refine ws_next ?_ | refine ws_brk ?_ | refine ws_cnt ?_ | refine ws_do ?_ | refine ws_ret ?_ | refine ws_retF ?_ | refine ws_retN ?_ | refine ws_set ?_ | refine ws_acc ?_ | refine ws_par ?_ | refine ws_asg ?_ | refine ws_for ?_ | refine ws_if ?_ | refine we_2 ?_ | refine we_1 ?_ | refine we_n ?_ | refine we_3 ?_ | refine we_c ?_ | refine wo_none ?_ | refine wo_some ?_ | refine wl_cons ?_ | refine wl_nil ?_ | refine we_V ?_ | refine we_own ?_ | refine we_tup ?_ | refine wl_lst ?_ | refine wt_of ?_ | refine wt_or ?_ | refine wt_and ?_ | refine wt_not ?_ | refine we_and ?_ | refine we_or ?_ | refine we_not ?_ | refine we_if ?_ | refine we_isN ?_ | refine we_notN ?_ | refine we_chain ?_ | refine wt_yes ?_ | refine wi_L ?_ | refine wi_T ?_ | refine wi_S ?_ | refine wi_R1 ?_ | refine wi_R2 ?_ | refine wi_R3 ?_ | refine wi_E ?_ | refine we_call ?_ | refine we_callF ?_ | refine we_bm ?_ | refine wg_sb ?_ | refine we_m1 ?_ | refine we_rev ?_ | refine wo_add ?_ | refine wo_sub ?_ | refine wo_neg ?_ | refine wo_cmp ?_ | refine wo_eqI ?_ | refine wo_neI ?_ | refine wo_eqS ?_ | refine wo_neS ?_ | refine wo_eqB ?_ | refine wo_neB ?_ | refine wo_lenL ?_ | refine wo_lenT ?_ | refine wo_lenC ?_ | refine wo_max ?_ | refine wo_min ?_ | refine wo_slL ?_ | refine wo_listC ?_ | refine wo_listL ?_ | refine wo_listT ?_ | refine wo_tupT ?_ | refine wo_tupL ?_ | refine wo_intI ?_ | refine wo_intB ?_ | refine wo_strS ?_ | refine wo_inS ?_ | refine wo_ninS ?_) | ((with_reducible apply we_var); rfl) | ((with_reducible apply ws_frz); rfl) | ((with_reducible apply ws_app); rfl) | ((with_reducible apply ws_extend); rfl) | ((with_reducible apply ws_retA); rfl) | ((with_reducible apply ws_frz0); rfl) | ((with_reducible apply wo_isT); rfl; rfl) | (refine ⟨Nat.le_of_ble_eq_true rfl, ?_⟩) | (with_reducible refine ⟨_, rfl, ?_⟩) | (with_reducible refine wg_nm (Nat.le_of_ble_eq_true rfl) ?_) | (refine ⟨⟨Nat.le_of_ble_eq_true rfl, Nat.le_of_ble_eq_true rfl⟩, ?_⟩) | (with_reducible refine Or.inl ⟨_, rfl, ?_⟩) | (with_reducible refine Or.inr ⟨_, rfl, ?_⟩))
      refine wo_lenO h2 ?_
      repeat (first | with_reducible (first | refine ws_seq ?_ | refine nxt_nx ?_ | refine lp_nx ?_ | refine lp_ct ?_ | refine lp_bk ?_ | refine lp_rt ?_ | refine lp_rf ?_ | refine nxt_rt ?_ | refine nxt_rf ?_ | refine nxt_bk ?_ | refine nxt_ct ?_ | refine end_nx ?_ | refine end_rt ?_ | refine end_rf ?_ | refine ws_next ?_ | refine ws_brk ?_ | refine ws_cnt ?_ | refine ws_do ?_ | refine ws_ret ?_ | refine ws_retF ?_ | refine ws_retN ?_ | refine ws_set ?_ | refine ws_acc ?_ | refine ws_par ?_ | refine ws_asg ?_ | refine ws_for ?_ | refine ws_if ?_ | refine we_2 ?_ | refine we_1 ?_ | refine we_n ?_ | refine we_3 ?_ | refine we_c ?_ | refine wo_none ?_ | refine wo_some ?_ | refine wl_cons ?_ | refine wl_nil ?_ | refine we_V ?_ | refine we_own ?_ | refine we_tup ?_ | refine wl_lst ?_ | refine wt_of ?_ | refine wt_or ?_ | refine wt_and ?_ | refine wt_not ?_ | refine we_and ?_ | refine we_or ?_ | refine we_not ?_ | refine we_if ?_ | refine we_isN ?_ | refine we_notN ?_ | refine we_chain ?_ | refine wt_yes ?_ | refine wi_L ?_ | refine wi_T ?_ | refine wi_S ?_ | refine wi_R1 ?_ | refine wi_R2 ?_ | refine wi_R3 ?_ | refine wi_E ?_ | refine we_call ?_ | refine we_callF ?_ | refine we_bm ?_ | refine wg_sb ?_ | refine we_m1 ?_ | refine we_rev ?_ | refine wo_add ?_ | refine wo_sub ?_ | refine wo_neg ?_ | refine wo_cmp ?_ | refine wo_eqI ?_ | refine wo_neI ?_ | refine wo_eqS ?_ | refine wo_neS ?_ | refine wo_eqB ?_ | refine wo_neB ?_ | refine wo_lenL ?_ | refine wo_lenT ?_ | refine wo_lenC ?_ | refine wo_max ?_ | refine wo_min ?_ | refine wo_slL ?_ | refine wo_listC ?_ | refine wo_listL ?_ | refine wo_listT ?_ | refine wo_tupT ?_ | refine wo_tupL ?_ | refine wo_intI ?_ | refine wo_intB ?_ | refine wo_strS ?_ | refine wo_inS ?_ | refine wo_ninS ?_) | ((with_reducible apply we_var); rfl) | ((with_reducible apply ws_frz); rfl) | ((with_reducible apply ws_app); rfl) | ((with_reducible apply ws_extend); rfl) | ((with_reducible apply ws_retA); rfl) | ((with_reducible apply ws_frz0); rfl) | ((with_reducible apply wo_isT); rfl; rfl) | (refine ⟨Nat.le_of_ble_eq_true rfl, ?_⟩) | (with_reducible refine ⟨_, rfl, ?_⟩) | (with_reducible refine wg_nm (Nat.le_of_ble_eq_true rfl) ?_) | (refine ⟨⟨Nat.le_of_ble_eq_true rfl, Nat.le_of_ble_eq_true rfl⟩, ?_⟩) | (with_reducible refine Or.inl ⟨_, rfl, ?_⟩) | (with_reducible refine Or.inr ⟨_, rfl, ?_⟩))
      refine ⟨by omega, ?_⟩
      refine ws_loop (fun _ ρ S1 => S1 = S ∧ ∃ z : Sl, ρ = [.val a, .val b, z]) ⟨rfl, .no, rfl⟩ ?_ ?_
      · rintro k d ρ S1 hd ⟨rfl, z, rfl⟩
        obtain ⟨rfl, lt⟩ := rng_get hd
        have lt' : k < bs.length := by simpa using lt
        have ea : as[((0 : Int) + (k : Int)).toNat]? = some (as[k]'(by omega)) := by simp
        have eb : bs[((0 : Int) + (k : Int)).toNat]? = some (bs[k]'lt') := by simp
        repeat (first | with_reducible (first | refine ws_seq ?_ | refine nxt_nx ?_ | refine lp_nx ?_ | refine lp_ct ?_ | refine lp_bk ?_ | refine lp_rt ?_ | refine lp_rf ?_ | refine nxt_rt ?_ | refine nxt_rf ?_ | refine nxt_bk ?_ | refine nxt_ct ?_ | refine end_nx ?_ | refine end_rt ?_ | refine end_rf ?_ | refine ws_next ?_ | refine ws_brk ?_ | refine ws_cnt ?_ | refine ws_do ?_ | refine ws_ret ?_ | refine ws_retF ?_ | refine ws_retN ?_ | refine ws_set ?_ | refine ws_acc ?_ | refine ws_par ?_ | refine ws_asg ?_ | refine ws_for ?_ | refine ws_if ?_ | refine we_2 ?_ | refine we_1 ?_ | refine we_n ?_ | refine we_3 ?_ | refine we_c ?_ | refine wo_none ?_ | refine wo_some ?_ | refine wl_cons ?_ | refine wl_nil ?_ | refine we_V ?_ | refine we_own ?_ | refine we_tup ?_ | refine wl_lst ?_ | refine wt_of ?_ | refine wt_or ?_ | refine wt_and ?_ | refine wt_not ?_ | refine we_and ?_ | refine we_or ?_ | refine we_not ?_ | refine we_if ?_ | refine we_isN ?_ | refine we_notN ?_ | refine we_chain ?_ | refine wt_yes ?_ | refine wi_L ?_ | refine wi_T ?_ | refine wi_S ?_ | refine wi_R1 ?_ | refine wi_R2 ?_ | refine wi_R3 ?_ | refine wi_E ?_ | refine we_call ?_ | refine we_callF ?_ | refine we_bm ?_ | refine wg_sb ?_ | refine we_m1 ?_ | refine we_rev ?_ | refine wo_add ?_ | refine wo_sub ?_ | refine wo_neg ?_ | refine wo_cmp ?_ | refine wo_eqI ?_ | refine wo_neI ?_ | refine wo_eqS ?_ | refine wo_neS ?_ | refine wo_eqB ?_ | refine wo_neB ?_ | refine wo_lenL ?_ | refine wo_lenT ?_ | refine wo_lenC ?_ | refine wo_max ?_ | refine wo_min ?_ | refine wo_slL ?_ | refine wo_listC ?_ | refine wo_listL ?_ | refine wo_listT ?_ | refine wo_tupT ?_ | refine wo_tupL ?_ | refine wo_intI ?_ | refine wo_intB ?_ | refine wo_strS ?_ | refine wo_inS ?_ | refine wo_ninS ?_) | ((with_reducible apply we_var); rfl) | ((with_reducible apply ws_frz); rfl) | ((with_reducible apply ws_app); rfl) | ((with_reducible apply ws_extend); rfl) | ((with_reducible apply ws_retA); rfl) | ((with_reducible apply ws_frz0); rfl) | ((with_reducible apply wo_isT); rfl; rfl) | (refine ⟨Nat.le_of_ble_eq_true rfl, ?_⟩) | (with_reducible refine ⟨_, rfl, ?_⟩) | (with_reducible refine wg_nm (Nat.le_of_ble_eq_true rfl) ?_) | (refine ⟨⟨Nat.le_of_ble_eq_true rfl, Nat.le_of_ble_eq_true rfl⟩, ?_⟩) | (with_reducible refine Or.inl ⟨_, rfl, ?_⟩) | (with_reducible refine Or.inr ⟨_, rfl, ?_⟩))
        refine wo_ixO h1 (by omega) ea ?_
        repeat (first | with_reducible (first | refine ws_seq ?_ | refine nxt_nx ?_ | refine lp_nx ?_ | refine lp_ct ?_ | refine lp_bk ?_ | refine lp_rt ?_ | refine lp_rf ?_ | refine nxt_rt ?_ | refine nxt_rf ?_ | refine nxt_bk ?_ | refine nxt_ct ?_ | refine end_nx ?_ | refine end_rt ?_ | refine end_rf ?_ | refine ws_next ?_ | refine ws_brk ?_ | refine ws_cnt ?_ | refine ws_do ?_ | refine ws_ret ?_ | refine ws_retF ?_ | refine ws_retN ?_ | refine ws_set ?_ | refine ws_acc ?_ | refine ws_par ?_ | refine ws_asg ?_ | refine ws_for ?_ | refine ws_if ?_ | refine we_2 ?_ | refine we_1 ?_ | refine we_n ?_ | refine we_3 ?_ | refine we_c ?_ | refine wo_none ?_ | refine wo_some ?_ | refine wl_cons ?_ | refine wl_nil ?_ | refine we_V ?_ | refine we_own ?_ | refine we_tup ?_ | refine wl_lst ?_ | refine wt_of ?_ | refine wt_or ?_ | refine wt_and ?_ | refine wt_not ?_ | refine we_and ?_ | refine we_or ?_ | refine we_not ?_ | refine we_if ?_ | refine we_isN ?_ | refine we_notN ?_ | refine we_chain ?_ | refine wt_yes ?_ | refine wi_L ?_ | refine wi_T ?_ | refine wi_S ?_ | refine wi_R1 ?_ | refine wi_R2 ?_ | refine wi_R3 ?_ | refine wi_E ?_ | refine we_call ?_ | refine we_callF ?_ | refine we_bm ?_ | refine wg_sb ?_ | refine we_m1 ?_ | refine we_rev ?_ | refine wo_add ?_ | refine wo_sub ?_ | refine wo_neg ?_ | refine wo_cmp ?_ | refine wo_eqI ?_ | refine wo_neI ?_ | refine wo_eqS ?_ | refine wo_neS ?_ | refine wo_eqB ?_ | refine wo_neB ?_ | refine wo_lenL ?_ | refine wo_lenT ?_ | refine wo_lenC ?_ | refine wo_max ?_ | refine wo_min ?_ | refine wo_slL ?_ | refine wo_listC ?_ | refine wo_listL ?_ | refine wo_listT ?_ | refine wo_tupT ?_ | refine wo_tupL ?_ | refine wo_intI ?_ | refine wo_intB ?_ | refine wo_strS ?_ | refine wo_inS ?_ | refine wo_ninS ?_) | ((with_reducible apply we_var); rfl) | ((with_reducible apply ws_frz); rfl) | ((with_reducible apply ws_app); rfl) | ((with_reducible apply ws_extend); rfl) | ((with_reducible apply ws_retA); rfl) | ((with_reducible apply ws_frz0); rfl) | ((with_reducible apply wo_isT); rfl; rfl) | (refine ⟨Nat.le_of_ble_eq_true rfl, ?_⟩) | (with_reducible refine ⟨_, rfl, ?_⟩) | (with_reducible refine wg_nm (Nat.le_of_ble_eq_true rfl) ?_) | (refine ⟨⟨Nat.le_of_ble_eq_true rfl, Nat.le_of_ble_eq_true rfl⟩, ?_⟩) | (with_reducible refine Or.inl ⟨_, rfl, ?_⟩) | (with_reducible refine Or.inr ⟨_, rfl, ?_⟩))
        refine wo_ixO h2 (by omega) eb ?_
        repeat (first | with_reducible (first | refine ws_seq ?_ | refine nxt_nx ?_ | refine lp_nx ?_ | refine lp_ct ?_ | refine lp_bk ?_ | refine lp_rt ?_ | refine lp_rf ?_ | refine nxt_rt ?_ | refine nxt_rf ?_ | refine nxt_bk ?_ | refine nxt_ct ?_ | refine end_nx ?_ | refine end_rt ?_ | refine end_rf ?_ | refine ws_next ?_ | refine ws_brk ?_ | refine ws_cnt ?_ | refine ws_do ?_ | refine ws_ret ?_ | refine ws_retF ?_ | refine ws_retN ?_ | refine ws_set ?_ | refine ws_acc ?_ | refine ws_par ?_ | refine ws_asg ?_ | refine ws_for ?_ | refine ws_if ?_ | refine we_2 ?_ | refine we_1 ?_ | refine we_n ?_ | refine we_3 ?_ | refine we_c ?_ | refine wo_none ?_ | refine wo_some ?_ | refine wl_cons ?_ | refine wl_nil ?_ | refine we_V ?_ | refine we_own ?_ | refine we_tup ?_ | refine wl_lst ?_ | refine wt_of ?_ | refine wt_or ?_ | refine wt_and ?_ | refine wt_not ?_ | refine we_and ?_ | refine we_or ?_ | refine we_not ?_ | refine we_if ?_ | refine we_isN ?_ | refine we_notN ?_ | refine we_chain ?_ | refine wt_yes ?_ | refine wi_L ?_ | refine wi_T ?_ | refine wi_S ?_ | refine wi_R1 ?_ | refine wi_R2 ?_ | refine wi_R3 ?_ | refine wi_E ?_ | refine we_call ?_ | refine we_callF ?_ | refine we_bm ?_ | refine wg_sb ?_ | refine we_m1 ?_ | refine we_rev ?_ | refine wo_add ?_ | refine wo_sub ?_ | refine wo_neg ?_ | refine wo_cmp ?_ | refine wo_eqI ?_ | refine wo_neI ?_ | refine wo_eqS ?_ | refine wo_neS ?_ | refine wo_eqB ?_ | refine wo_neB ?_ | refine wo_lenL ?_ | refine wo_lenT ?_ | refine wo_lenC ?_ | refine wo_max ?_ | refine wo_min ?_ | refine wo_slL ?_ | refine wo_listC ?_ | refine wo_listL ?_ | refine wo_listT ?_ | refine wo_tupT ?_ | refine wo_tupL ?_ | refine wo_intI ?_ | refine wo_intB ?_ | refine wo_strS ?_ | refine wo_inS ?_ | refine wo_ninS ?_) | ((with_reducible apply we_var); rfl) | ((with_reducible apply ws_frz); rfl) | ((with_reducible apply ws_app); rfl) | ((with_reducible apply ws_extend); rfl) | ((with_reducible apply ws_retA); rfl) | ((with_reducible apply ws_frz0); rfl) | ((with_reducible apply wo_isT); rfl; rfl) | (refine ⟨Nat.le_of_ble_eq_true rfl, ?_⟩) | (with_reducible refine ⟨_, rfl, ?_⟩) | (with_reducible refine wg_nm (Nat.le_of_ble_eq_true rfl) ?_) | (refine ⟨⟨Nat.le_of_ble_eq_true rfl, Nat.le_of_ble_eq_true rfl⟩, ?_⟩) | (with_reducible refine Or.inl ⟨_, rfl, ?_⟩) | (with_reducible refine Or.inr ⟨_, rfl, ?_⟩))
        refine (alike_ok (hk k _ _ (List.getElem?_eq_getElem (by omega)) (List.getElem?_eq_getElem lt'))).mono fun o S2 h => ?_
        obtain ⟨rfl, rfl⟩ := h
        repeat (first | with_reducible (first | refine ws_seq ?_ | refine nxt_nx ?_ | refine lp_nx ?_ | refine lp_ct ?_ | refine lp_bk ?_ | refine lp_rt ?_ | refine lp_rf ?_ | refine nxt_rt ?_ | refine nxt_rf ?_ | refine nxt_bk ?_ | refine nxt_ct ?_ | refine end_nx ?_ | refine end_rt ?_ | refine end_rf ?_ | refine ws_next ?_ | refine ws_brk ?_ | refine ws_cnt ?_ | refine ws_do ?_ | refine ws_ret ?_ | refine ws_retF ?_ | refine ws_retN ?_ | refine ws_set ?_ | refine ws_acc ?_ | refine ws_par ?_ | refine ws_asg ?_ | refine ws_for ?_ | refine ws_if ?_ | refine we_2 ?_ | refine we_1 ?_ | refine we_n ?_ | refine we_3 ?_ | refine we_c ?_ | refine wo_none ?_ | refine wo_some ?_ | refine wl_cons ?_ | refine wl_nil ?_ | refine we_V ?_ | refine we_own ?_ | refine we_tup ?_ | refine wl_lst ?_ | refine wt_of ?_ | refine wt_or ?_ | refine wt_and ?_ | refine wt_not ?_ | refine we_and ?_ | refine we_or ?_ | refine we_not ?_ | refine we_if ?_ | refine we_isN ?_ | refine we_notN ?_ | refine we_chain ?_ | refine wt_yes ?_ | refine wi_L ?_ | refine wi_T ?_ | refine wi_S ?_ | refine wi_R1 ?_ | refine wi_R2 ?_ | refine wi_R3 ?_ | refine wi_E ?_ | refine we_call ?_ | refine we_callF ?_ | refine we_bm ?_ | refine wg_sb ?_ | refine we_m1 ?_ | refine we_rev ?_ | refine wo_add ?_ | refine wo_sub ?_ | refine wo_neg ?_ | refine wo_cmp ?_ | refine wo_eqI ?_ | refine wo_neI ?_ | refine wo_eqS ?_ | refine wo_neS ?_ | refine wo_eqB ?_ | refine wo_neB ?_ | refine wo_lenL ?_ | refine wo_lenT ?_ | refine wo_lenC ?_ | refine wo_max ?_ | refine wo_min ?_ | refine wo_slL ?_ | refine wo_listC ?_ | refine wo_listL ?_ | refine wo_listT ?_ | refine wo_tupT ?_ | refine wo_tupL ?_ | refine wo_intI ?_ | refine wo_intB ?_ | refine wo_strS ?_ | refine wo_inS ?_ | refine wo_ninS ?_) | ((with_reducible apply we_var); rfl) | ((with_reducible apply ws_frz); rfl) | ((with_reducible apply ws_app); rfl) | ((with_reducible apply ws_extend); rfl) | ((with_reducible apply ws_retA); rfl) | ((with_reducible apply ws_frz0); rfl) | ((with_reducible apply wo_isT); rfl; rfl) | (refine ⟨Nat.le_of_ble_eq_true rfl, ?_⟩) | (with_reducible refine ⟨_, rfl, ?_⟩) | (with_reducible refine wg_nm (Nat.le_of_ble_eq_true rfl) ?_) | (refine ⟨⟨Nat.le_of_ble_eq_true rfl, Nat.le_of_ble_eq_true rfl⟩, ?_⟩) | (with_reducible refine Or.inl ⟨_, rfl, ?_⟩) | (with_reducible refine Or.inr ⟨_, rfl, ?_⟩))
        refine ⟨fun z => (nomatch z), fun _ => ?_⟩
        repeat (first | with_reducible (first | refine ws_seq ?_ | refine nxt_nx ?_ | refine lp_nx ?_ | refine lp_ct ?_ | refine lp_bk ?_ | refine lp_rt ?_ | refine lp_rf ?_ | refine nxt_rt ?_ | refine nxt_rf ?_ | refine nxt_bk ?_ | refine nxt_ct ?_ | refine end_nx ?_ | refine end_rt ?_ | refine end_rf ?_ | refine ws_next ?_ | refine ws_brk ?_ | refine ws_cnt ?_ | refine ws_do ?_ | refine ws_ret ?_ | refine ws_retF ?_ | refine ws_retN ?_ | refine ws_set ?_ | refine ws_acc ?_ | refine ws_par ?_ | refine ws_asg ?_ | refine ws_for ?_ | refine ws_if ?_ | refine we_2 ?_ | refine we_1 ?_ | refine we_n ?_ | refine we_3 ?_ | refine we_c ?_ | refine wo_none ?_ | refine wo_some ?_ | refine wl_cons ?_ | refine wl_nil ?_ | refine we_V ?_ | refine we_own ?_ | refine we_tup ?_ | refine wl_lst ?_ | refine wt_of ?_ | refine wt_or ?_ | refine wt_and ?_ | refine wt_not ?_ | refine we_and ?_ | refine we_or ?_ | refine we_not ?_ | refine we_if ?_ | refine we_isN ?_ | refine we_notN ?_ | refine we_chain ?_ | refine wt_yes ?_ | refine wi_L ?_ | refine wi_T ?_ | refine wi_S ?_ | refine wi_R1 ?_ | refine wi_R2 ?_ | refine wi_R3 ?_ | refine wi_E ?_ | refine we_call ?_ | refine we_callF ?_ | refine we_bm ?_ | refine wg_sb ?_ | refine we_m1 ?_ | refine we_rev ?_ | refine wo_add ?_ | refine wo_sub ?_ | refine wo_neg ?_ | refine wo_cmp ?_ | refine wo_eqI ?_ | refine wo_neI ?_ | refine wo_eqS ?_ | refine wo_neS ?_ | refine wo_eqB ?_ | refine wo_neB ?_ | refine wo_lenL ?_ | refine wo_lenT ?_ | refine wo_lenC ?_ | refine wo_max ?_ | refine wo_min ?_ | refine wo_slL ?_ | refine wo_listC ?_ | refine wo_listL ?_ | refine wo_listT ?_ | refine wo_tupT ?_ | refine wo_tupL ?_ | refine wo_intI ?_ | refine wo_intB ?_ | refine wo_strS ?_ | refine wo_inS ?_ | refine wo_ninS ?_) | ((with_reducible apply we_var); rfl) | ((with_reducible apply ws_frz); rfl) | ((with_reducible apply ws_app); rfl) | ((with_reducible apply ws_extend); rfl) | ((with_reducible apply ws_retA); rfl) | ((with_reducible apply ws_frz0); rfl) | ((with_reducible apply wo_isT); rfl; rfl) | (refine ⟨Nat.le_of_ble_eq_true rfl, ?_⟩) | (with_reducible refine ⟨_, rfl, ?_⟩) | (with_reducible refine wg_nm (Nat.le_of_ble_eq_true rfl) ?_) | (refine ⟨⟨Nat.le_of_ble_eq_true rfl, Nat.le_of_ble_eq_true rfl⟩, ?_⟩) | (with_reducible refine Or.inl ⟨_, rfl, ?_⟩) | (with_reducible refine Or.inr ⟨_, rfl, ?_⟩))
        exact ⟨rfl, _, rfl⟩
      · rintro ρ S1 ⟨rfl, z, rfl⟩
        repeat (first | with_reducible (first | refine ws_seq ?_ | refine nxt_nx ?_ | refine lp_nx ?_ | refine lp_ct ?_ | refine lp_bk ?_ | refine lp_rt ?_ | refine lp_rf ?_ | refine nxt_rt ?_ | refine nxt_rf ?_ | refine nxt_bk ?_ | refine nxt_ct ?_ | refine end_nx ?_ | refine end_rt ?_ | refine end_rf ?_ | refine ws_next ?_ | refine ws_brk ?_ | refine ws_cnt ?_ | refine ws_do ?_ | refine ws_ret ?_ | refine ws_retF ?_ | refine ws_retN ?_ | refine ws_set ?_ | refine ws_acc ?_ | refine ws_par ?_ | refine ws_asg ?_ | refine ws_for ?_ | refine ws_if ?_ | refine we_2 ?_ | refine we_1 ?_ | refine we_n ?_ | refine we_3 ?_ | refine we_c ?_ | refine wo_none ?_ | refine wo_some ?_ | refine wl_cons ?_ | refine wl_nil ?_ | refine we_V ?_ | refine we_own ?_ | refine we_tup ?_ | refine wl_lst ?_ | refine wt_of ?_ | refine wt_or ?_ | refine wt_and ?_ | refine wt_not ?_ | refine we_and ?_ | refine we_or ?_ | refine we_not ?_ | refine we_if ?_ | refine we_isN ?_ | refine we_notN ?_ | refine we_chain ?_ | refine wt_yes ?_ | refine wi_L ?_ | refine wi_T ?_ | refine wi_S ?_ | refine wi_R1 ?_ | refine wi_R2 ?_ | refine wi_R3 ?_ | refine wi_E ?_ | refine we_call ?_ | refine we_callF ?_ | refine we_bm ?_ | refine wg_sb ?_ | refine we_m1 ?_ | refine we_rev ?_ | refine wo_add ?_ | refine wo_sub ?_ | refine wo_neg ?_ | refine wo_cmp ?_ | refine wo_eqI ?_ | refine wo_neI ?_ | refine wo_eqS ?_ | refine wo_neS ?_ | refine wo_eqB ?_ | refine wo_neB ?_ | refine wo_lenL ?_ | refine wo_lenT ?_ | refine wo_lenC ?_ | refine wo_max ?_ | refine wo_min ?_ | refine wo_slL ?_ | refine wo_listC ?_ | refine wo_listL ?_ | refine wo_listT ?_ | refine wo_tupT ?_ | refine wo_tupL ?_ | refine wo_intI ?_ | refine wo_intB ?_ | refine wo_strS ?_ | refine wo_inS ?_ | refine wo_ninS ?_) | ((with_reducible apply we_var); rfl) | ((with_reducible apply ws_frz); rfl) | ((with_reducible apply ws_app); rfl) | ((with_reducible apply ws_extend); rfl) | ((with_reducible apply ws_retA); rfl) | ((with_reducible apply ws_frz0); rfl) | ((with_reducible apply wo_isT); rfl; rfl) | (refine ⟨Nat.le_of_ble_eq_true rfl, ?_⟩) | (with_reducible refine ⟨_, rfl, ?_⟩) | (with_reducible refine wg_nm (Nat.le_of_ble_eq_true rfl) ?_) | (refine ⟨⟨Nat.le_of_ble_eq_true rfl, Nat.le_of_ble_eq_true rfl⟩, ?_⟩) | (with_reducible refine Or.inl ⟨_, rfl, ?_⟩) | (with_reducible refine Or.inr ⟨_, rfl, ?_⟩))
        exact ⟨rfl, rfl⟩
end AH

set_option maxRecDepth 100000
set_option maxHeartbeats 2000000
/-! texts, cuts, data equal to itself -/
namespace AH
open PySem L2 TL
theorem cut_lo {α : Type} (xs : List α) (n : Nat) : cutL xs none (some (n : Int)) = xs.take n := by
  unfold cutL
  rw [HT.sIx_none, HT.sIx_nat, List.drop_zero, Nat.sub_zero, List.take_eq_take_iff]
  omega
theorem cut_hi {α : Type} (xs : List α) (n : Nat) : cutL xs (some (n : Int)) none = xs.drop n := by
  unfold cutL
  rw [HT.sIx_none, HT.sIx_nat]
  by_cases h : n ≤ xs.length
  · rw [Nat.min_eq_left h, List.take_of_length_le (by simp)]
  · rw [Nat.min_eq_right (by omega), List.drop_eq_nil_of_le (by omega), List.drop_eq_nil_of_le (by omega)]
    simp
theorem cut_mid {α : Type} (xs : List α) (a b : Nat) : cutL xs (some (a : Int)) (some (b : Int)) = (xs.drop a).take (b - a) := by
  unfold cutL
  rw [HT.sIx_nat, HT.sIx_nat]
  by_cases h : a ≤ xs.length
  · rw [Nat.min_eq_left h, List.take_eq_take_iff, List.length_drop]
    omega
  · rw [Nat.min_eq_right (Nat.le_of_lt (Nat.lt_of_not_le h)), List.drop_eq_nil_of_le (Nat.le_refl _), List.drop_eq_nil_of_le (by omega)]
    simp
theorem cut_neg {α : Type} (xs : List α) (h : Nat) (h0 : 0 < h) : cutL xs (some (-(h : Int))) none = xs.drop (xs.length - h) := by
  unfold cutL
  have e : HT.sIx xs.length 0 (some (-(h : Int))) = xs.length - h := by
    show (if (-(h : Int)) < 0 then ((-(h : Int)) + (xs.length : Int)).toNat else _) = _
    rw [if_pos (by omega)]
    omega
  rw [e, HT.sIx_none, List.take_of_length_le (by simp)]
theorem rng3_get {lo c : Int} {n k : Nat} {d : D} (h : (rng3 lo c n)[k]? = some d) : d = .int (lo + (k : Nat) * c) ∧ k < n := by
  unfold rng3 at h
  rw [List.getElem?_map] at h
  cases e : (List.range n)[k]? with
  | none => rw [e] at h; cases h
  | some j =>
    rw [e] at h
    cases h
    have l : k < n := by
      have z := (List.getElem?_eq_some_iff.mp e).1
      simpa using z
    rw [List.getElem?_range l] at e
    cases e
    exact ⟨rfl, l⟩
theorem rng3_len {lo c : Int} {n : Nat} : (rng3 lo c n).length = n := by
  unfold rng3
  simp
theorem strs_one : ∀ zs : List Nat, strsOf (zs.map fun c => D.str [c]) = some (zs.map fun c => [c])
  | [] => rfl
  | z :: zs => by
    show (strsOf (zs.map fun c => D.str [c])).map _ = _
    rw [strs_one zs]
    rfl
theorem join_one : ∀ zs : List Nat, joinD [] (zs.map fun c => [c]) = zs
  | [] => rfl
  | [z] => rfl
  | z :: y :: zs => by
    show [z] ++ ([] ++ joinD [] ((y :: zs).map fun c => [c])) = _
    rw [join_one (y :: zs)]
    rfl
theorem sum_one : ∀ zs : List Nat, ((zs.map fun c => [c]).map (·.length)).sum = zs.length
  | [] => rfl
  | z :: zs => by
    show 1 + ((zs.map fun c => [c]).map (·.length)).sum = zs.length + 1
    rw [sum_one zs]
    omega
theorem wo_joinC {S : Sto} {zs : List Nat} {P : D → Sto → Prop} (l : zs.length ≤ 16777216) (h : P (.str zs) S) : W (fJoin (.str []) [.lst (zs.map fun c => D.str [c])] S) P := by
  refine ⟨_, _, ?_, h⟩
  show ((strsOf (zs.map fun c => D.str [c])).bind _) = _
  rw [strs_one]
  show (if ((zs.map fun c => [c]).map (·.length)).sum + (zs.map fun c => [c]).length * 0 ≤ 16777216 then some (D.str (joinD [] (zs.map fun c => [c])), S) else none) = _
  rw [sum_one, join_one, if_pos (by omega)]
/-! data equal to itself -/
def okS (c : List Nat) : Prop := ∀ x ∈ c, x < 1114112
theorem okS_lay {c : List Nat} (h : okS c) : PyData.canLay0 (.str ⟨c.toArray⟩) = true := by
  show (c.toArray.all (· < 0x110000)) = true
  rw [← Array.all_toList, List.all_eq_true]
  intro x hx
  exact decide_eq_true (h x hx)
theorem toPys_strs : ∀ zs : List (List Nat), toPys (zs.map D.str) = some (zs.map fun c => PyData.str ⟨c.toArray⟩)
  | [] => rfl
  | z :: zs => by
    show (match toPy (.str z), toPys (zs.map D.str) with
      | some p, some ps => some (p :: ps)
      | _, _ => none) = _
    rw [toPys_strs zs]
    rfl
theorem lay_strs : ∀ zs : List (List Nat), (∀ c ∈ zs, okS c) → PyData.canLayAll0 (zs.map fun c => PyData.str ⟨c.toArray⟩) = true ∧ PyData.depthAll (zs.map fun c => PyData.str ⟨c.toArray⟩) = 0
  | [], _ => ⟨rfl, rfl⟩
  | z :: zs, h => by
    obtain ⟨h1, h2⟩ := lay_strs zs fun c hc => h c (List.mem_cons_of_mem _ hc)
    refine ⟨?_, ?_⟩
    · show (PyData.canLay0 (.str ⟨z.toArray⟩) && PyData.canLayAll0 _) = true
      rw [h1, okS_lay (h z (List.mem_cons_self ..))]
      rfl
    · show max (PyData.depth (.str ⟨z.toArray⟩)) (PyData.depthAll _) = 0
      rw [h2]
      rfl
theorem eqPy_self {p : PyData} (h : SeqAt.shaped p = true) : eqPy p p = some true := by
  unfold eqPy
  rw [if_pos ⟨h, h⟩, SeqAt.eqv_refl p (SeqAt.canLay_of_shaped h)]
theorem eqD_strs {S : Sto} {zs : List (List Nat)} (h : ∀ c ∈ zs, okS c) : eqD S (.lst (zs.map .str)) (.lst (zs.map .str)) = some true := by
  show (match (toPys (zs.map D.str)).map PyData.list, (toPys (zs.map D.str)).map PyData.list with
    | some p, some q => eqPy p q
    | _, _ => none) = _
  rw [toPys_strs]
  refine eqPy_self ?_
  obtain ⟨h1, h2⟩ := lay_strs zs h
  show (PyData.canLayAll0 _ && decide (PyData.depthAll _ + 1 ≤ 64)) = true
  rw [h1, h2]
  rfl
theorem wo_neStrs {S : Sto} {zs : List (List Nat)} {P : D → Sto → Prop} (h : ∀ c ∈ zs, okS c) (k : P (.bl false) S) : W (fNe (.lst (zs.map .str)) (.lst (zs.map .str)) S) P := by
  refine ⟨_, _, ?_, k⟩
  unfold fNe
  rw [eqD_strs h]
  rfl
theorem ak_strs {S : Sto} {n : Nat} {a b : D} {zs : List (List Nat)} (ha : lstOf S a = some (zs.map .str)) (hb : lstOf S b = some (zs.map .str)) (hz : zs.length ≤ 1000000) : Ak S (n + 2) a b := by
  refine .lst ha hb rfl (by simpa using hz) fun i x y hx hy => ?_
  rw [hx] at hy
  cases hy
  rw [List.getElem?_map] at hx
  cases e : zs[i]? with
  | none => rw [e] at hx; cases hx
  | some c => rw [e] at hx; cases hx; exact .str
theorem wo_lenSt {S : Sto} {zs : List (List Nat)} {P : D → Sto → Prop} (h : P (.int zs.length) S) : W (fLen [.lst (zs.map .str)] S) P := by
  refine wo_lenL ?_
  rw [List.length_map]
  exact h
theorem map_get {α : Type} {f : α → D} {xs : List α} {k : Nat} {d : D} (h : (xs.map f)[k]? = some d) : ∃ x, xs[k]? = some x ∧ d = f x := by
  rw [List.getElem?_map] at h
  cases e : xs[k]? with
  | none => rw [e] at h; cases h
  | some x => rw [e] at h; cases h; exact ⟨x, rfl, rfl⟩
end AH

set_option maxRecDepth 100000
set_option maxHeartbeats 4000000
/-! letters: what packed and unpacked do -/
namespace AH
open PySem L2 TL
theorem strsOf_map : ∀ zs : List (List Nat), strsOf (zs.map D.str) = some zs
  | [] => rfl
  | z :: zs => by
    show (strsOf (zs.map D.str)).map _ = _
    rw [strsOf_map zs]
    rfl
theorem wo_joinS {S : Sto} {s : List Nat} {zs : List (List Nat)} {P : D → Sto → Prop} (l : (zs.map (·.length)).sum + zs.length * s.length ≤ 16777216) (h : P (.str (joinD s zs)) S) : W (fJoin (.str s) [.lst (zs.map .str)] S) P := by
  refine ⟨_, _, ?_, h⟩
  show ((strsOf (zs.map D.str)).bind _) = _
  rw [strsOf_map]
  exact if_pos l
theorem wo_joinO {S : Sto} {a : D} {s : List Nat} {zs : List (List Nat)} {P : D → Sto → Prop} (ha : lstOf S a = some (zs.map .str)) (l : (zs.map (·.length)).sum + zs.length * s.length ≤ 16777216) (h : P (.str (joinD s zs)) S) : W (fJoin (.str s) [a] S) P := by
  refine ⟨_, _, ?_, h⟩
  show ((seqOf S a).bind fun ds => (strsOf ds).bind _) = _
  rw [(lstOf_ty ha).2.2]
  show ((strsOf (zs.map D.str)).bind _) = _
  rw [strsOf_map]
  exact if_pos l
theorem wo_index {S : Sto} {z : List Nat} {c : Nat} {P : D → Sto → Prop} (hc : c ∈ z) (h : P (.int (z.idxOf c)) S) : W (fIndexS (.str z) [.str [c]] S) P := ⟨_, _, if_pos hc, h⟩
theorem wo_count {S : Sto} {z : List Nat} {c : Nat} {P : D → Sto → Prop} (h : P (.int (z.count c)) S) : W (fCount (.str z) [.str [c]] S) P := w_ret h
theorem wo_split {S : Sto} {z : List Nat} {c : Nat} {P : List D → Sto → Prop} (l : c < 256 ∧ z.length + 2 ≤ 16777216) (h : P ((splitC c z).map .str) S) : W (fSplit (.str z) [.str [c]] S) P := ⟨_, _, if_pos (by rw [sizeLine_eq]; exact l), h⟩
theorem wo_intS {S : Sto} {z : List Nat} {P : D → Sto → Prop} (l : allDig z = true ∧ z ≠ [] ∧ z.length ≤ 600) (h : P (.int (decV z)) S) : W (fIntS [.str z] S) P := ⟨_, _, if_pos l, h⟩
theorem wo_neNI {S : Sto} {j : Int} {P : D → Sto → Prop} (h : P (.bl true) S) : W (fNe .non (.int j) S) P := w_ret h
theorem cut_upto1 {α : Type} (xs : List α) : cutL xs none (some (-1)) = xs.take (xs.length - 1) := by
  unfold cutL
  have e : HT.sIx xs.length xs.length (some (-1)) = xs.length - 1 := by
    show (if (-1 : Int) < 0 then ((-1 : Int) + (xs.length : Int)).toNat else min (-1 : Int).toNat xs.length) = _
    rw [if_pos (by omega)]
    omega
  rw [e, HT.sIx_none, List.drop_zero, Nat.sub_zero]
theorem cut_last1 {α : Type} (xs : List α) : cutL xs (some (-1)) none = xs.drop (xs.length - 1) := cut_neg xs 1 (by omega)
theorem chars_get {z : List Nat} {k : Nat} {d : D} (h : (chars z)[k]? = some d) : ∃ c, z[k]? = some c ∧ d = .str [c] := map_get h
theorem chars_len {z : List Nat} : (chars z).length = z.length := by
  unfold chars
  simp
/-- the signs of a text that are not of A -/
theorem wl_signs {it : EvL} {i : Nat} {t : EvT} {ρ : Rho} {S : Sto} {A : List Nat} {ρ1 : Nat → Rho} {P : List D → Sto → Prop} (hp : ∀ c, pNm i (.str [c]) (wipeR ρ [i]) = some (ρ1 c)) (hv : ∀ c, (ρ1 c)[i]? = some (.val (.str [c])))
    (h : W (it ρ S) fun all S1 => ∃ z : List Nat, all = chars z ∧ z.length ≤ 16777216 ∧ (∀ c, W (t (ρ1 c) S1) fun b S2 => b = !decide (c ∈ A) ∧ S2 = S1) ∧ P ((z.filter fun c => !decide (c ∈ A)).map fun c => D.str [c]) S1) : W (fLc it [i] (pNm i) t (eVar i) ρ S) P := by
  refine wl_lc (h.mono fun all S1 hh => ?_)
  obtain ⟨z, rfl, hz, ht, hP⟩ := hh
  refine ⟨fun k out S2 => S2 = S1 ∧ out = ((z.take k).filter fun c => !decide (c ∈ A)).map fun c => D.str [c], ⟨rfl, rfl⟩, ?_, ?_⟩
  · rintro k d out S2 hk ⟨rfl, rfl⟩
    obtain ⟨c, hc, rfl⟩ := chars_get hk
    refine ⟨_, hp c, (ht c).mono fun b S3 hb => ?_⟩
    obtain ⟨rfl, rfl⟩ := hb
    have e : z.take (k + 1) = z.take k ++ [c] := by
      rw [List.take_add_one, hc]
      rfl
    refine ⟨fun q => ⟨rfl, ?_⟩, fun q => we_var (hv c) ⟨rfl, ?_⟩⟩
    · rw [e, List.filter_append]
      simp only [List.filter_cons, q]
      simp
    · rw [e, List.filter_append]
      simp only [List.filter_cons, q]
      simp
  · rintro out S2 ⟨rfl, rfl⟩
    rw [chars_len, List.take_of_length_le (Nat.le_refl _)]
    refine ⟨?_, hP⟩
    rw [List.length_map]
    exact Nat.le_trans (List.length_filter_le _ _) hz
theorem eqv_strs_nil : ∀ zs : List (List Nat), PyData.eqvAll (zs.map fun c => PyData.str ⟨c.toArray⟩) [] = zs.isEmpty
  | [] => rfl
  | _ :: _ => rfl
theorem wo_neNil {S : Sto} {z : List Nat} {P : D → Sto → Prop} (ok : okS z) (h : P (.bl (!z.isEmpty)) S) : W (fNe (.lst (z.map fun c => D.str [c])) (.lst []) S) P := by
  refine ⟨_, _, ?_, h⟩
  have e : eqD S (.lst (z.map fun c => D.str [c])) (.lst []) = some z.isEmpty := by
    have e0 : (z.map fun c => D.str [c]) = (z.map fun c => [c]).map D.str := by simp
    rw [e0]
    show (match (toPys ((z.map fun c => [c]).map D.str)).map PyData.list, (toPys []).map PyData.list with
      | some p, some q => eqPy p q
      | _, _ => none) = _
    rw [toPys_strs]
    have hs : SeqAt.shaped (PyData.list ((z.map fun c => [c]).map fun c => PyData.str ⟨c.toArray⟩)) = true := by
      obtain ⟨h1, h2⟩ := lay_strs (z.map fun c => [c]) (by
        intro c hc
        rw [List.mem_map] at hc
        obtain ⟨x, hx, rfl⟩ := hc
        intro y hy
        rw [List.mem_singleton] at hy
        rw [hy]
        exact ok x hx)
      show (PyData.canLayAll0 _ && decide (PyData.depthAll _ + 1 ≤ 64)) = true
      rw [h1, h2]
      rfl
    show (if SeqAt.shaped (PyData.list ((z.map fun c => [c]).map fun c => PyData.str ⟨c.toArray⟩)) = true ∧ SeqAt.shaped (PyData.list []) = true then some (PyData.eqvAll ((z.map fun c => [c]).map fun c => PyData.str ⟨c.toArray⟩) []) else none) = _
    rw [if_pos ⟨hs, rfl⟩, eqv_strs_nil]
    cases z <;> rfl
  unfold fNe
  rw [e]
  rfl
theorem filt_empty {A z : List Nat} : (z.filter fun c => !decide (c ∈ A)).isEmpty = decide (∀ c ∈ z, c ∈ A) := by
  rw [Bool.eq_iff_iff, List.isEmpty_iff, List.filter_eq_nil_iff, decide_eq_true_iff]
  constructor
  · intro h c hc
    have := h c hc
    simpa using this
  · intro h c hc
    simpa using h c hc
theorem okS_filter {z : List Nat} {p : Nat → Bool} (h : okS z) : okS (z.filter p) := fun c hc => h c (List.mem_filter.mp hc).1
/-! the sum -/
def sg : List Nat := [97, 98, 99, 100, 101, 102, 103, 104, 105, 106, 107, 108, 109, 110, 111, 112, 113, 114, 115, 116, 117, 118, 119, 120, 121, 122, 48, 49, 50, 51, 52, 53, 54, 55, 56, 57, 32, 62, 63, 60, 59]
def sb : List Nat := [97, 98, 99, 100, 101, 102, 103, 104, 105, 106, 107, 108, 109, 110, 111, 112, 113, 114, 115, 116, 117, 118, 119, 120, 121, 122, 48, 49, 50, 51, 52, 53, 54, 55, 56, 57, 32, 62, 63, 60, 59, 124]
def dg : List Nat := [48, 49, 50, 51, 52, 53, 54, 55, 56, 57]
theorem sb_lt : ∀ c ∈ sb, c < 128 := by decide
theorem sg_sb : ∀ c ∈ sg, c ∈ sb := by decide
theorem dg_iff {c : Nat} : c ∈ dg ↔ 48 ≤ c ∧ c ≤ 57 := by
  unfold dg
  simp
  omega
theorem sb_okS {z : List Nat} (h : ∀ c ∈ z, c ∈ sb) : okS z := fun c hc => Nat.lt_trans (sb_lt c (h c hc)) (by decide)
def sumV (z : List Nat) : Nat := z.foldl (fun f c => (f * 61 + sb.idxOf c + 1) % 9973) 0
theorem sumV_succ {z : List Nat} {k c : Nat} (h : z[k]? = some c) : sumV (z.take (k + 1)) = (sumV (z.take k) * 61 + sb.idxOf c + 1) % 9973 := by
  unfold sumV
  rw [List.take_add_one, h, List.foldl_append]
  rfl
theorem sumV_lt (z : List Nat) : sumV z < 9973 := by
  have h : ∀ (z : List Nat) (a : Nat), a < 9973 → z.foldl (fun f c => (f * 61 + sb.idxOf c + 1) % 9973) a < 9973 := by
    intro z
    induction z with
    | nil => exact fun a h => h
    | cons x z ih => exact fun a h => ih _ (Nat.mod_lt _ (by decide))
  exact h z 0 (by decide)
def bSum : EvS := (sSeq (sAsg (eC (.int 0)) (gNm 1))
  (sSeq (sFor (iS (eVar 0)) (gNm 2) (sAsg (e2 fMod (e2 fAdd (e2 fAdd (e2 fMul (eVar 1) (eC (.int 61))) (eM1 fIndexS (e2 fAdd (eC (.str sg)) (eC (.str [124]))) (eVar 2))) (eC (.int 1))) (eC (.int 9973))) (gNm 1)))
  (sRet (eVar 1))))
def F_sum : Fn := runB 1 3 bSum
theorem sum_ok {S : Sto} {z : List Nat} (hz : ∀ c ∈ z, c ∈ sb) : W (F_sum [.str z] S) fun o S' => o = .v (.int (sumV z)) ∧ S' = S := by
  refine w_run rfl ?_
  show WS (bSum [.val (.str z), .no, .no] S) _
  unfold bSum
  repeat (first | with_reducible (first | refine ws_seq ?_ | refine nxt_nx ?_ | refine lp_nx ?_ | refine lp_ct ?_ | refine lp_bk ?_ | refine lp_rt ?_ | refine lp_rf ?_ | refine nxt_rt ?_ | refine nxt_rf ?_ | refine nxt_bk ?_ | refine nxt_ct ?_ | refine end_nx ?_ | refine end_rt ?_ | refine end_rf ?_ | refine ws_next ?_ | refine ws_brk ?_ | refine ws_cnt ?_ | refine ws_do ?_ | refine ws_ret ?_ | refine ws_retF ?_ | refine ws_retN ?_ | refine ws_set ?_ | refine ws_acc ?_ | refine ws_par ?_ | refine ws_asg ?_ | refine ws_for ?_ | refine ws_if ?_ | refine we_2 ?_ | refine we_1 ?_ | refine we_n ?_ | refine we_3 ?_ | refine we_c ?_ | refine wo_none ?_ | refine wo_some ?_ | refine wl_cons ?_ | refine wl_nil ?_ | refine we_V ?_ | refine we_own ?_ | refine we_tup ?_ | refine wl_lst ?_ | refine wt_of ?_ | refine wt_or ?_ | refine wt_and ?_ | refine wt_not ?_ | refine we_and ?_ | refine we_or ?_ | refine we_not ?_ | refine we_if ?_ | refine we_isN ?_ | refine we_notN ?_ | refine we_chain ?_ | refine wt_yes ?_ | refine wi_L ?_ | refine wi_T ?_ | refine wi_S ?_ | refine wi_R1 ?_ | refine wi_R2 ?_ | refine wi_R3 ?_ | refine wi_E ?_ | refine we_call ?_ | refine we_callF ?_ | refine we_bm ?_ | refine wg_sb ?_ | refine we_m1 ?_ | refine we_rev ?_ | refine wo_add ?_ | refine wo_sub ?_ | refine wo_neg ?_ | refine wo_cmp ?_ | refine wo_eqI ?_ | refine wo_neI ?_ | refine wo_eqS ?_ | refine wo_neS ?_ | refine wo_eqB ?_ | refine wo_neB ?_ | refine wo_lenL ?_ | refine wo_lenT ?_ | refine wo_lenC ?_ | refine wo_max ?_ | refine wo_min ?_ | refine wo_slL ?_ | refine wo_listC ?_ | refine wo_listL ?_ | refine wo_listT ?_ | refine wo_tupT ?_ | refine wo_tupL ?_ | refine wo_intI ?_ | refine wo_intB ?_ | refine wo_strS ?_ | refine wo_inS ?_ | refine wo_ninS ?_) | ((with_reducible apply we_var); rfl) | ((with_reducible apply ws_frz); rfl) | ((with_reducible apply ws_app); rfl) | ((with_reducible apply ws_extend); rfl) | ((with_reducible apply ws_retA); rfl) | ((with_reducible apply ws_frz0); rfl) | ((with_reducible apply wo_isT); rfl; rfl) | (refine ⟨Nat.le_of_ble_eq_true rfl, ?_⟩) | (with_reducible refine ⟨_, rfl, ?_⟩) | (with_reducible refine wg_nm (Nat.le_of_ble_eq_true rfl) ?_) | (refine ⟨⟨Nat.le_of_ble_eq_true rfl, Nat.le_of_ble_eq_true rfl⟩, ?_⟩) | (with_reducible refine Or.inl ⟨_, rfl, ?_⟩) | (with_reducible refine Or.inr ⟨_, rfl, ?_⟩))
  refine ws_loop (fun k ρ S1 => S1 = S ∧ ∃ x : Sl, ρ = [.val (.str z), .val (.int (sumV (z.take k))), x]) ⟨rfl, _, rfl⟩ ?_ ?_
  · rintro k d ρ S1 hk ⟨rfl, x, rfl⟩
    obtain ⟨c, hc, rfl⟩ := chars_get hk
    repeat (first | with_reducible (first | refine ws_seq ?_ | refine nxt_nx ?_ | refine lp_nx ?_ | refine lp_ct ?_ | refine lp_bk ?_ | refine lp_rt ?_ | refine lp_rf ?_ | refine nxt_rt ?_ | refine nxt_rf ?_ | refine nxt_bk ?_ | refine nxt_ct ?_ | refine end_nx ?_ | refine end_rt ?_ | refine end_rf ?_ | refine ws_next ?_ | refine ws_brk ?_ | refine ws_cnt ?_ | refine ws_do ?_ | refine ws_ret ?_ | refine ws_retF ?_ | refine ws_retN ?_ | refine ws_set ?_ | refine ws_acc ?_ | refine ws_par ?_ | refine ws_asg ?_ | refine ws_for ?_ | refine ws_if ?_ | refine we_2 ?_ | refine we_1 ?_ | refine we_n ?_ | refine we_3 ?_ | refine we_c ?_ | refine wo_none ?_ | refine wo_some ?_ | refine wl_cons ?_ | refine wl_nil ?_ | refine we_V ?_ | refine we_own ?_ | refine we_tup ?_ | refine wl_lst ?_ | refine wt_of ?_ | refine wt_or ?_ | refine wt_and ?_ | refine wt_not ?_ | refine we_and ?_ | refine we_or ?_ | refine we_not ?_ | refine we_if ?_ | refine we_isN ?_ | refine we_notN ?_ | refine we_chain ?_ | refine wt_yes ?_ | refine wi_L ?_ | refine wi_T ?_ | refine wi_S ?_ | refine wi_R1 ?_ | refine wi_R2 ?_ | refine wi_R3 ?_ | refine wi_E ?_ | refine we_call ?_ | refine we_callF ?_ | refine we_bm ?_ | refine wg_sb ?_ | refine we_m1 ?_ | refine we_rev ?_ | refine wo_add ?_ | refine wo_sub ?_ | refine wo_neg ?_ | refine wo_cmp ?_ | refine wo_eqI ?_ | refine wo_neI ?_ | refine wo_eqS ?_ | refine wo_neS ?_ | refine wo_eqB ?_ | refine wo_neB ?_ | refine wo_lenL ?_ | refine wo_lenT ?_ | refine wo_lenC ?_ | refine wo_max ?_ | refine wo_min ?_ | refine wo_slL ?_ | refine wo_listC ?_ | refine wo_listL ?_ | refine wo_listT ?_ | refine wo_tupT ?_ | refine wo_tupL ?_ | refine wo_intI ?_ | refine wo_intB ?_ | refine wo_strS ?_ | refine wo_inS ?_ | refine wo_ninS ?_) | ((with_reducible apply we_var); rfl) | ((with_reducible apply ws_frz); rfl) | ((with_reducible apply ws_app); rfl) | ((with_reducible apply ws_extend); rfl) | ((with_reducible apply ws_retA); rfl) | ((with_reducible apply ws_frz0); rfl) | ((with_reducible apply wo_isT); rfl; rfl) | (refine ⟨Nat.le_of_ble_eq_true rfl, ?_⟩) | (with_reducible refine ⟨_, rfl, ?_⟩) | (with_reducible refine wg_nm (Nat.le_of_ble_eq_true rfl) ?_) | (refine ⟨⟨Nat.le_of_ble_eq_true rfl, Nat.le_of_ble_eq_true rfl⟩, ?_⟩) | (with_reducible refine Or.inl ⟨_, rfl, ?_⟩) | (with_reducible refine Or.inr ⟨_, rfl, ?_⟩))
    refine wo_mul (Or.inr (by decide)) ?_
    repeat (first | with_reducible (first | refine ws_seq ?_ | refine nxt_nx ?_ | refine lp_nx ?_ | refine lp_ct ?_ | refine lp_bk ?_ | refine lp_rt ?_ | refine lp_rf ?_ | refine nxt_rt ?_ | refine nxt_rf ?_ | refine nxt_bk ?_ | refine nxt_ct ?_ | refine end_nx ?_ | refine end_rt ?_ | refine end_rf ?_ | refine ws_next ?_ | refine ws_brk ?_ | refine ws_cnt ?_ | refine ws_do ?_ | refine ws_ret ?_ | refine ws_retF ?_ | refine ws_retN ?_ | refine ws_set ?_ | refine ws_acc ?_ | refine ws_par ?_ | refine ws_asg ?_ | refine ws_for ?_ | refine ws_if ?_ | refine we_2 ?_ | refine we_1 ?_ | refine we_n ?_ | refine we_3 ?_ | refine we_c ?_ | refine wo_none ?_ | refine wo_some ?_ | refine wl_cons ?_ | refine wl_nil ?_ | refine we_V ?_ | refine we_own ?_ | refine we_tup ?_ | refine wl_lst ?_ | refine wt_of ?_ | refine wt_or ?_ | refine wt_and ?_ | refine wt_not ?_ | refine we_and ?_ | refine we_or ?_ | refine we_not ?_ | refine we_if ?_ | refine we_isN ?_ | refine we_notN ?_ | refine we_chain ?_ | refine wt_yes ?_ | refine wi_L ?_ | refine wi_T ?_ | refine wi_S ?_ | refine wi_R1 ?_ | refine wi_R2 ?_ | refine wi_R3 ?_ | refine wi_E ?_ | refine we_call ?_ | refine we_callF ?_ | refine we_bm ?_ | refine wg_sb ?_ | refine we_m1 ?_ | refine we_rev ?_ | refine wo_add ?_ | refine wo_sub ?_ | refine wo_neg ?_ | refine wo_cmp ?_ | refine wo_eqI ?_ | refine wo_neI ?_ | refine wo_eqS ?_ | refine wo_neS ?_ | refine wo_eqB ?_ | refine wo_neB ?_ | refine wo_lenL ?_ | refine wo_lenT ?_ | refine wo_lenC ?_ | refine wo_max ?_ | refine wo_min ?_ | refine wo_slL ?_ | refine wo_listC ?_ | refine wo_listL ?_ | refine wo_listT ?_ | refine wo_tupT ?_ | refine wo_tupL ?_ | refine wo_intI ?_ | refine wo_intB ?_ | refine wo_strS ?_ | refine wo_inS ?_ | refine wo_ninS ?_) | ((with_reducible apply we_var); rfl) | ((with_reducible apply ws_frz); rfl) | ((with_reducible apply ws_app); rfl) | ((with_reducible apply ws_extend); rfl) | ((with_reducible apply ws_retA); rfl) | ((with_reducible apply ws_frz0); rfl) | ((with_reducible apply wo_isT); rfl; rfl) | (refine ⟨Nat.le_of_ble_eq_true rfl, ?_⟩) | (with_reducible refine ⟨_, rfl, ?_⟩) | (with_reducible refine wg_nm (Nat.le_of_ble_eq_true rfl) ?_) | (refine ⟨⟨Nat.le_of_ble_eq_true rfl, Nat.le_of_ble_eq_true rfl⟩, ?_⟩) | (with_reducible refine Or.inl ⟨_, rfl, ?_⟩) | (with_reducible refine Or.inr ⟨_, rfl, ?_⟩))
    refine wo_addS (by decide) ?_
    repeat (first | with_reducible (first | refine ws_seq ?_ | refine nxt_nx ?_ | refine lp_nx ?_ | refine lp_ct ?_ | refine lp_bk ?_ | refine lp_rt ?_ | refine lp_rf ?_ | refine nxt_rt ?_ | refine nxt_rf ?_ | refine nxt_bk ?_ | refine nxt_ct ?_ | refine end_nx ?_ | refine end_rt ?_ | refine end_rf ?_ | refine ws_next ?_ | refine ws_brk ?_ | refine ws_cnt ?_ | refine ws_do ?_ | refine ws_ret ?_ | refine ws_retF ?_ | refine ws_retN ?_ | refine ws_set ?_ | refine ws_acc ?_ | refine ws_par ?_ | refine ws_asg ?_ | refine ws_for ?_ | refine ws_if ?_ | refine we_2 ?_ | refine we_1 ?_ | refine we_n ?_ | refine we_3 ?_ | refine we_c ?_ | refine wo_none ?_ | refine wo_some ?_ | refine wl_cons ?_ | refine wl_nil ?_ | refine we_V ?_ | refine we_own ?_ | refine we_tup ?_ | refine wl_lst ?_ | refine wt_of ?_ | refine wt_or ?_ | refine wt_and ?_ | refine wt_not ?_ | refine we_and ?_ | refine we_or ?_ | refine we_not ?_ | refine we_if ?_ | refine we_isN ?_ | refine we_notN ?_ | refine we_chain ?_ | refine wt_yes ?_ | refine wi_L ?_ | refine wi_T ?_ | refine wi_S ?_ | refine wi_R1 ?_ | refine wi_R2 ?_ | refine wi_R3 ?_ | refine wi_E ?_ | refine we_call ?_ | refine we_callF ?_ | refine we_bm ?_ | refine wg_sb ?_ | refine we_m1 ?_ | refine we_rev ?_ | refine wo_add ?_ | refine wo_sub ?_ | refine wo_neg ?_ | refine wo_cmp ?_ | refine wo_eqI ?_ | refine wo_neI ?_ | refine wo_eqS ?_ | refine wo_neS ?_ | refine wo_eqB ?_ | refine wo_neB ?_ | refine wo_lenL ?_ | refine wo_lenT ?_ | refine wo_lenC ?_ | refine wo_max ?_ | refine wo_min ?_ | refine wo_slL ?_ | refine wo_listC ?_ | refine wo_listL ?_ | refine wo_listT ?_ | refine wo_tupT ?_ | refine wo_tupL ?_ | refine wo_intI ?_ | refine wo_intB ?_ | refine wo_strS ?_ | refine wo_inS ?_ | refine wo_ninS ?_) | ((with_reducible apply we_var); rfl) | ((with_reducible apply ws_frz); rfl) | ((with_reducible apply ws_app); rfl) | ((with_reducible apply ws_extend); rfl) | ((with_reducible apply ws_retA); rfl) | ((with_reducible apply ws_frz0); rfl) | ((with_reducible apply wo_isT); rfl; rfl) | (refine ⟨Nat.le_of_ble_eq_true rfl, ?_⟩) | (with_reducible refine ⟨_, rfl, ?_⟩) | (with_reducible refine wg_nm (Nat.le_of_ble_eq_true rfl) ?_) | (refine ⟨⟨Nat.le_of_ble_eq_true rfl, Nat.le_of_ble_eq_true rfl⟩, ?_⟩) | (with_reducible refine Or.inl ⟨_, rfl, ?_⟩) | (with_reducible refine Or.inr ⟨_, rfl, ?_⟩))
    refine wo_index (hz c (List.mem_of_getElem? hc)) ?_
    repeat (first | with_reducible (first | refine ws_seq ?_ | refine nxt_nx ?_ | refine lp_nx ?_ | refine lp_ct ?_ | refine lp_bk ?_ | refine lp_rt ?_ | refine lp_rf ?_ | refine nxt_rt ?_ | refine nxt_rf ?_ | refine nxt_bk ?_ | refine nxt_ct ?_ | refine end_nx ?_ | refine end_rt ?_ | refine end_rf ?_ | refine ws_next ?_ | refine ws_brk ?_ | refine ws_cnt ?_ | refine ws_do ?_ | refine ws_ret ?_ | refine ws_retF ?_ | refine ws_retN ?_ | refine ws_set ?_ | refine ws_acc ?_ | refine ws_par ?_ | refine ws_asg ?_ | refine ws_for ?_ | refine ws_if ?_ | refine we_2 ?_ | refine we_1 ?_ | refine we_n ?_ | refine we_3 ?_ | refine we_c ?_ | refine wo_none ?_ | refine wo_some ?_ | refine wl_cons ?_ | refine wl_nil ?_ | refine we_V ?_ | refine we_own ?_ | refine we_tup ?_ | refine wl_lst ?_ | refine wt_of ?_ | refine wt_or ?_ | refine wt_and ?_ | refine wt_not ?_ | refine we_and ?_ | refine we_or ?_ | refine we_not ?_ | refine we_if ?_ | refine we_isN ?_ | refine we_notN ?_ | refine we_chain ?_ | refine wt_yes ?_ | refine wi_L ?_ | refine wi_T ?_ | refine wi_S ?_ | refine wi_R1 ?_ | refine wi_R2 ?_ | refine wi_R3 ?_ | refine wi_E ?_ | refine we_call ?_ | refine we_callF ?_ | refine we_bm ?_ | refine wg_sb ?_ | refine we_m1 ?_ | refine we_rev ?_ | refine wo_add ?_ | refine wo_sub ?_ | refine wo_neg ?_ | refine wo_cmp ?_ | refine wo_eqI ?_ | refine wo_neI ?_ | refine wo_eqS ?_ | refine wo_neS ?_ | refine wo_eqB ?_ | refine wo_neB ?_ | refine wo_lenL ?_ | refine wo_lenT ?_ | refine wo_lenC ?_ | refine wo_max ?_ | refine wo_min ?_ | refine wo_slL ?_ | refine wo_listC ?_ | refine wo_listL ?_ | refine wo_listT ?_ | refine wo_tupT ?_ | refine wo_tupL ?_ | refine wo_intI ?_ | refine wo_intB ?_ | refine wo_strS ?_ | refine wo_inS ?_ | refine wo_ninS ?_) | ((with_reducible apply we_var); rfl) | ((with_reducible apply ws_frz); rfl) | ((with_reducible apply ws_app); rfl) | ((with_reducible apply ws_extend); rfl) | ((with_reducible apply ws_retA); rfl) | ((with_reducible apply ws_frz0); rfl) | ((with_reducible apply wo_isT); rfl; rfl) | (refine ⟨Nat.le_of_ble_eq_true rfl, ?_⟩) | (with_reducible refine ⟨_, rfl, ?_⟩) | (with_reducible refine wg_nm (Nat.le_of_ble_eq_true rfl) ?_) | (refine ⟨⟨Nat.le_of_ble_eq_true rfl, Nat.le_of_ble_eq_true rfl⟩, ?_⟩) | (with_reducible refine Or.inl ⟨_, rfl, ?_⟩) | (with_reducible refine Or.inr ⟨_, rfl, ?_⟩))
    refine wo_mod (by decide) ?_
    repeat (first | with_reducible (first | refine ws_seq ?_ | refine nxt_nx ?_ | refine lp_nx ?_ | refine lp_ct ?_ | refine lp_bk ?_ | refine lp_rt ?_ | refine lp_rf ?_ | refine nxt_rt ?_ | refine nxt_rf ?_ | refine nxt_bk ?_ | refine nxt_ct ?_ | refine end_nx ?_ | refine end_rt ?_ | refine end_rf ?_ | refine ws_next ?_ | refine ws_brk ?_ | refine ws_cnt ?_ | refine ws_do ?_ | refine ws_ret ?_ | refine ws_retF ?_ | refine ws_retN ?_ | refine ws_set ?_ | refine ws_acc ?_ | refine ws_par ?_ | refine ws_asg ?_ | refine ws_for ?_ | refine ws_if ?_ | refine we_2 ?_ | refine we_1 ?_ | refine we_n ?_ | refine we_3 ?_ | refine we_c ?_ | refine wo_none ?_ | refine wo_some ?_ | refine wl_cons ?_ | refine wl_nil ?_ | refine we_V ?_ | refine we_own ?_ | refine we_tup ?_ | refine wl_lst ?_ | refine wt_of ?_ | refine wt_or ?_ | refine wt_and ?_ | refine wt_not ?_ | refine we_and ?_ | refine we_or ?_ | refine we_not ?_ | refine we_if ?_ | refine we_isN ?_ | refine we_notN ?_ | refine we_chain ?_ | refine wt_yes ?_ | refine wi_L ?_ | refine wi_T ?_ | refine wi_S ?_ | refine wi_R1 ?_ | refine wi_R2 ?_ | refine wi_R3 ?_ | refine wi_E ?_ | refine we_call ?_ | refine we_callF ?_ | refine we_bm ?_ | refine wg_sb ?_ | refine we_m1 ?_ | refine we_rev ?_ | refine wo_add ?_ | refine wo_sub ?_ | refine wo_neg ?_ | refine wo_cmp ?_ | refine wo_eqI ?_ | refine wo_neI ?_ | refine wo_eqS ?_ | refine wo_neS ?_ | refine wo_eqB ?_ | refine wo_neB ?_ | refine wo_lenL ?_ | refine wo_lenT ?_ | refine wo_lenC ?_ | refine wo_max ?_ | refine wo_min ?_ | refine wo_slL ?_ | refine wo_listC ?_ | refine wo_listL ?_ | refine wo_listT ?_ | refine wo_tupT ?_ | refine wo_tupL ?_ | refine wo_intI ?_ | refine wo_intB ?_ | refine wo_strS ?_ | refine wo_inS ?_ | refine wo_ninS ?_) | ((with_reducible apply we_var); rfl) | ((with_reducible apply ws_frz); rfl) | ((with_reducible apply ws_app); rfl) | ((with_reducible apply ws_extend); rfl) | ((with_reducible apply ws_retA); rfl) | ((with_reducible apply ws_frz0); rfl) | ((with_reducible apply wo_isT); rfl; rfl) | (refine ⟨Nat.le_of_ble_eq_true rfl, ?_⟩) | (with_reducible refine ⟨_, rfl, ?_⟩) | (with_reducible refine wg_nm (Nat.le_of_ble_eq_true rfl) ?_) | (refine ⟨⟨Nat.le_of_ble_eq_true rfl, Nat.le_of_ble_eq_true rfl⟩, ?_⟩) | (with_reducible refine Or.inl ⟨_, rfl, ?_⟩) | (with_reducible refine Or.inr ⟨_, rfl, ?_⟩))
    refine ⟨rfl, .val (.str [c]), ?_⟩
    rw [sumV_succ hc]
    show [Sl.val (.str z), .val (.int (((sumV (z.take k) : Int) * 61 + (sb.idxOf c : Int) + 1) % 9973)), .val (.str [c])] = _
    have e : (((sumV (z.take k) : Int) * 61 + (sb.idxOf c : Int) + 1) % 9973) = (((sumV (z.take k) * 61 + sb.idxOf c + 1) % 9973 : Nat) : Int) := by omega
    rw [e]
  · rintro ρ S1 ⟨rfl, x, rfl⟩
    rw [chars_len, List.take_of_length_le (Nat.le_refl _)]
    repeat (first | with_reducible (first | refine ws_seq ?_ | refine nxt_nx ?_ | refine lp_nx ?_ | refine lp_ct ?_ | refine lp_bk ?_ | refine lp_rt ?_ | refine lp_rf ?_ | refine nxt_rt ?_ | refine nxt_rf ?_ | refine nxt_bk ?_ | refine nxt_ct ?_ | refine end_nx ?_ | refine end_rt ?_ | refine end_rf ?_ | refine ws_next ?_ | refine ws_brk ?_ | refine ws_cnt ?_ | refine ws_do ?_ | refine ws_ret ?_ | refine ws_retF ?_ | refine ws_retN ?_ | refine ws_set ?_ | refine ws_acc ?_ | refine ws_par ?_ | refine ws_asg ?_ | refine ws_for ?_ | refine ws_if ?_ | refine we_2 ?_ | refine we_1 ?_ | refine we_n ?_ | refine we_3 ?_ | refine we_c ?_ | refine wo_none ?_ | refine wo_some ?_ | refine wl_cons ?_ | refine wl_nil ?_ | refine we_V ?_ | refine we_own ?_ | refine we_tup ?_ | refine wl_lst ?_ | refine wt_of ?_ | refine wt_or ?_ | refine wt_and ?_ | refine wt_not ?_ | refine we_and ?_ | refine we_or ?_ | refine we_not ?_ | refine we_if ?_ | refine we_isN ?_ | refine we_notN ?_ | refine we_chain ?_ | refine wt_yes ?_ | refine wi_L ?_ | refine wi_T ?_ | refine wi_S ?_ | refine wi_R1 ?_ | refine wi_R2 ?_ | refine wi_R3 ?_ | refine wi_E ?_ | refine we_call ?_ | refine we_callF ?_ | refine we_bm ?_ | refine wg_sb ?_ | refine we_m1 ?_ | refine we_rev ?_ | refine wo_add ?_ | refine wo_sub ?_ | refine wo_neg ?_ | refine wo_cmp ?_ | refine wo_eqI ?_ | refine wo_neI ?_ | refine wo_eqS ?_ | refine wo_neS ?_ | refine wo_eqB ?_ | refine wo_neB ?_ | refine wo_lenL ?_ | refine wo_lenT ?_ | refine wo_lenC ?_ | refine wo_max ?_ | refine wo_min ?_ | refine wo_slL ?_ | refine wo_listC ?_ | refine wo_listL ?_ | refine wo_listT ?_ | refine wo_tupT ?_ | refine wo_tupL ?_ | refine wo_intI ?_ | refine wo_intB ?_ | refine wo_strS ?_ | refine wo_inS ?_ | refine wo_ninS ?_) | ((with_reducible apply we_var); rfl) | ((with_reducible apply ws_frz); rfl) | ((with_reducible apply ws_app); rfl) | ((with_reducible apply ws_extend); rfl) | ((with_reducible apply ws_retA); rfl) | ((with_reducible apply ws_frz0); rfl) | ((with_reducible apply wo_isT); rfl; rfl) | (refine ⟨Nat.le_of_ble_eq_true rfl, ?_⟩) | (with_reducible refine ⟨_, rfl, ?_⟩) | (with_reducible refine wg_nm (Nat.le_of_ble_eq_true rfl) ?_) | (refine ⟨⟨Nat.le_of_ble_eq_true rfl, Nat.le_of_ble_eq_true rfl⟩, ?_⟩) | (with_reducible refine Or.inl ⟨_, rfl, ?_⟩) | (with_reducible refine Or.inr ⟨_, rfl, ?_⟩))
    exact ⟨rfl, rfl⟩
/-! packed -/
def packV (fs : List (List Nat)) : List Nat := ((((numL (joinD [124] fs).length ++ [46]) ++ numL (sumV (joinD [124] fs))) ++ [46]) ++ joinD [124] fs) ++ [33]
def bPacked : EvS := (sSeq (sIf (tOrE (tOf (e2 fEq (eN fLen (aCons (eVar 0) aNil)) (eC (.int 0)))) (tOf (e2 fNe (eV (fLc (iS (eM1 fJoin (eC (.str [])) (eVar 0))) [1] (pNm 1) (tOf (e2 fNotInS (eVar 1) (eC (.str sg)))) (eVar 1))) (eV (fLst aNil))))) sNever sNext)
  (sSeq (sAsg (eM1 fJoin (eC (.str [124])) (eVar 0)) (gNm 2))
  (sRet (e2 fAdd (e2 fAdd (e2 fAdd (e2 fAdd (e2 fAdd (eN fStr (aCons (eN fLen (aCons (eVar 2) aNil)) aNil)) (eC (.str [46]))) (eN fStr (aCons (eN (callE F_sum) (aCons (eVar 2) aNil)) aNil))) (eC (.str [46]))) (eVar 2)) (eC (.str [33]))))))
def F_packed : Fn := runB 1 3 bPacked
theorem join_len {s : List Nat} : ∀ zs : List (List Nat), (joinD s zs).length ≤ (zs.map (·.length)).sum + zs.length * s.length
  | [] => Nat.zero_le _
  | [p] => by
    show p.length ≤ p.length + 0 + _
    omega
  | p :: q :: r => by
    have h := join_len (s := s) (q :: r)
    show (p ++ (s ++ joinD s (q :: r))).length ≤ (p.length + ((q :: r).map (·.length)).sum) + ((q :: r).length + 1) * s.length
    rw [List.length_append, List.length_append, Nat.succ_mul]
    omega
theorem join_mem {s : List Nat} {c : Nat} : ∀ {zs : List (List Nat)}, c ∈ joinD s zs → c ∈ s ∨ ∃ z ∈ zs, c ∈ z
  | [], h => by cases h
  | [p], h => .inr ⟨p, List.mem_singleton.mpr rfl, h⟩
  | p :: q :: r, h => by
    have h' : c ∈ p ++ (s ++ joinD s (q :: r)) := h
    rcases List.mem_append.mp h' with h | h
    · exact .inr ⟨p, List.mem_cons_self .., h⟩
    · rcases List.mem_append.mp h with h | h
      · exact .inl h
      · rcases join_mem h with h | ⟨z, hz, h⟩
        · exact .inl h
        · exact .inr ⟨z, List.mem_cons_of_mem _ hz, h⟩
/-- fields as packed wants them -/
structure Fs (fs : List (List Nat)) (n : Nat) : Prop where
  ne : fs ≠ []
  sg : ∀ z ∈ fs, ∀ c ∈ z, c ∈ sg
  le : (fs.map (·.length)).sum + fs.length ≤ n
theorem Fs.body {fs : List (List Nat)} {n : Nat} (h : Fs fs n) : (∀ c ∈ joinD [124] fs, c ∈ sb) ∧ (joinD [124] fs).length ≤ n := by
  refine ⟨fun c hc => ?_, ?_⟩
  · rcases join_mem hc with h1 | ⟨z, hz, h1⟩
    · rw [List.mem_singleton] at h1
      rw [h1]
      decide
    · exact sg_sb c (h.sg z hz c h1)
  · have := join_len (s := [124]) fs
    have h2 := h.le
    simp at this
    omega
theorem Fs.mono {fs : List (List Nat)} {n m : Nat} (h : Fs fs n) (l : n ≤ m) : Fs fs m := ⟨h.ne, h.sg, Nat.le_trans h.le l⟩
theorem numL_le {n k : Nat} (hk : 0 < k) (h : n < 10 ^ k) : (numL n).length ≤ k := numL_len hk h
theorem packed_ok {S : Sto} {a : D} {fs : List (List Nat)} (ha : lstOf S a = some (fs.map .str)) (h : Fs fs 900000) : W (F_packed [a] S) fun o S' => o = .v (.str (packV fs)) ∧ S' = S := by
  refine w_run rfl ?_
  show WS (bPacked [.val a, .no, .no] S) _
  unfold bPacked
  have hl := h.le
  repeat (first | with_reducible (first | refine ws_seq ?_ | refine nxt_nx ?_ | refine lp_nx ?_ | refine lp_ct ?_ | refine lp_bk ?_ | refine lp_rt ?_ | refine lp_rf ?_ | refine nxt_rt ?_ | refine nxt_rf ?_ | refine nxt_bk ?_ | refine nxt_ct ?_ | refine end_nx ?_ | refine end_rt ?_ | refine end_rf ?_ | refine ws_next ?_ | refine ws_brk ?_ | refine ws_cnt ?_ | refine ws_do ?_ | refine ws_ret ?_ | refine ws_retF ?_ | refine ws_retN ?_ | refine ws_set ?_ | refine ws_acc ?_ | refine ws_par ?_ | refine ws_asg ?_ | refine ws_for ?_ | refine ws_if ?_ | refine we_2 ?_ | refine we_1 ?_ | refine we_n ?_ | refine we_3 ?_ | refine we_c ?_ | refine wo_none ?_ | refine wo_some ?_ | refine wl_cons ?_ | refine wl_nil ?_ | refine we_V ?_ | refine we_own ?_ | refine we_tup ?_ | refine wl_lst ?_ | refine wt_of ?_ | refine wt_or ?_ | refine wt_and ?_ | refine wt_not ?_ | refine we_and ?_ | refine we_or ?_ | refine we_not ?_ | refine we_if ?_ | refine we_isN ?_ | refine we_notN ?_ | refine we_chain ?_ | refine wt_yes ?_ | refine wi_L ?_ | refine wi_T ?_ | refine wi_S ?_ | refine wi_R1 ?_ | refine wi_R2 ?_ | refine wi_R3 ?_ | refine wi_E ?_ | refine we_call ?_ | refine we_callF ?_ | refine we_bm ?_ | refine wg_sb ?_ | refine we_m1 ?_ | refine we_rev ?_ | refine wo_add ?_ | refine wo_sub ?_ | refine wo_neg ?_ | refine wo_cmp ?_ | refine wo_eqI ?_ | refine wo_neI ?_ | refine wo_eqS ?_ | refine wo_neS ?_ | refine wo_eqB ?_ | refine wo_neB ?_ | refine wo_lenL ?_ | refine wo_lenT ?_ | refine wo_lenC ?_ | refine wo_max ?_ | refine wo_min ?_ | refine wo_slL ?_ | refine wo_listC ?_ | refine wo_listL ?_ | refine wo_listT ?_ | refine wo_tupT ?_ | refine wo_tupL ?_ | refine wo_intI ?_ | refine wo_intB ?_ | refine wo_strS ?_ | refine wo_inS ?_ | refine wo_ninS ?_) | ((with_reducible apply we_var); rfl) | ((with_reducible apply ws_frz); rfl) | ((with_reducible apply ws_app); rfl) | ((with_reducible apply ws_extend); rfl) | ((with_reducible apply ws_retA); rfl) | ((with_reducible apply ws_frz0); rfl) | ((with_reducible apply wo_isT); rfl; rfl) | (refine ⟨Nat.le_of_ble_eq_true rfl, ?_⟩) | (with_reducible refine ⟨_, rfl, ?_⟩) | (with_reducible refine wg_nm (Nat.le_of_ble_eq_true rfl) ?_) | (refine ⟨⟨Nat.le_of_ble_eq_true rfl, Nat.le_of_ble_eq_true rfl⟩, ?_⟩) | (with_reducible refine Or.inl ⟨_, rfl, ?_⟩) | (with_reducible refine Or.inr ⟨_, rfl, ?_⟩))
  refine wo_lenO ha ?_
  repeat (first | with_reducible (first | refine ws_seq ?_ | refine nxt_nx ?_ | refine lp_nx ?_ | refine lp_ct ?_ | refine lp_bk ?_ | refine lp_rt ?_ | refine lp_rf ?_ | refine nxt_rt ?_ | refine nxt_rf ?_ | refine nxt_bk ?_ | refine nxt_ct ?_ | refine end_nx ?_ | refine end_rt ?_ | refine end_rf ?_ | refine ws_next ?_ | refine ws_brk ?_ | refine ws_cnt ?_ | refine ws_do ?_ | refine ws_ret ?_ | refine ws_retF ?_ | refine ws_retN ?_ | refine ws_set ?_ | refine ws_acc ?_ | refine ws_par ?_ | refine ws_asg ?_ | refine ws_for ?_ | refine ws_if ?_ | refine we_2 ?_ | refine we_1 ?_ | refine we_n ?_ | refine we_3 ?_ | refine we_c ?_ | refine wo_none ?_ | refine wo_some ?_ | refine wl_cons ?_ | refine wl_nil ?_ | refine we_V ?_ | refine we_own ?_ | refine we_tup ?_ | refine wl_lst ?_ | refine wt_of ?_ | refine wt_or ?_ | refine wt_and ?_ | refine wt_not ?_ | refine we_and ?_ | refine we_or ?_ | refine we_not ?_ | refine we_if ?_ | refine we_isN ?_ | refine we_notN ?_ | refine we_chain ?_ | refine wt_yes ?_ | refine wi_L ?_ | refine wi_T ?_ | refine wi_S ?_ | refine wi_R1 ?_ | refine wi_R2 ?_ | refine wi_R3 ?_ | refine wi_E ?_ | refine we_call ?_ | refine we_callF ?_ | refine we_bm ?_ | refine wg_sb ?_ | refine we_m1 ?_ | refine we_rev ?_ | refine wo_add ?_ | refine wo_sub ?_ | refine wo_neg ?_ | refine wo_cmp ?_ | refine wo_eqI ?_ | refine wo_neI ?_ | refine wo_eqS ?_ | refine wo_neS ?_ | refine wo_eqB ?_ | refine wo_neB ?_ | refine wo_lenL ?_ | refine wo_lenT ?_ | refine wo_lenC ?_ | refine wo_max ?_ | refine wo_min ?_ | refine wo_slL ?_ | refine wo_listC ?_ | refine wo_listL ?_ | refine wo_listT ?_ | refine wo_tupT ?_ | refine wo_tupL ?_ | refine wo_intI ?_ | refine wo_intB ?_ | refine wo_strS ?_ | refine wo_inS ?_ | refine wo_ninS ?_) | ((with_reducible apply we_var); rfl) | ((with_reducible apply ws_frz); rfl) | ((with_reducible apply ws_app); rfl) | ((with_reducible apply ws_extend); rfl) | ((with_reducible apply ws_retA); rfl) | ((with_reducible apply ws_frz0); rfl) | ((with_reducible apply wo_isT); rfl; rfl) | (refine ⟨Nat.le_of_ble_eq_true rfl, ?_⟩) | (with_reducible refine ⟨_, rfl, ?_⟩) | (with_reducible refine wg_nm (Nat.le_of_ble_eq_true rfl) ?_) | (refine ⟨⟨Nat.le_of_ble_eq_true rfl, Nat.le_of_ble_eq_true rfl⟩, ?_⟩) | (with_reducible refine Or.inl ⟨_, rfl, ?_⟩) | (with_reducible refine Or.inr ⟨_, rfl, ?_⟩))
  refine ⟨fun z => ?_, fun _ => ?_⟩
  · have z := of_decide_eq_true z
    rw [List.length_map] at z
    have : fs.length = 0 := by omega
    exact absurd (List.length_eq_zero_iff.mp this) h.ne
  repeat (first | with_reducible (first | refine ws_seq ?_ | refine nxt_nx ?_ | refine lp_nx ?_ | refine lp_ct ?_ | refine lp_bk ?_ | refine lp_rt ?_ | refine lp_rf ?_ | refine nxt_rt ?_ | refine nxt_rf ?_ | refine nxt_bk ?_ | refine nxt_ct ?_ | refine end_nx ?_ | refine end_rt ?_ | refine end_rf ?_ | refine ws_next ?_ | refine ws_brk ?_ | refine ws_cnt ?_ | refine ws_do ?_ | refine ws_ret ?_ | refine ws_retF ?_ | refine ws_retN ?_ | refine ws_set ?_ | refine ws_acc ?_ | refine ws_par ?_ | refine ws_asg ?_ | refine ws_for ?_ | refine ws_if ?_ | refine we_2 ?_ | refine we_1 ?_ | refine we_n ?_ | refine we_3 ?_ | refine we_c ?_ | refine wo_none ?_ | refine wo_some ?_ | refine wl_cons ?_ | refine wl_nil ?_ | refine we_V ?_ | refine we_own ?_ | refine we_tup ?_ | refine wl_lst ?_ | refine wt_of ?_ | refine wt_or ?_ | refine wt_and ?_ | refine wt_not ?_ | refine we_and ?_ | refine we_or ?_ | refine we_not ?_ | refine we_if ?_ | refine we_isN ?_ | refine we_notN ?_ | refine we_chain ?_ | refine wt_yes ?_ | refine wi_L ?_ | refine wi_T ?_ | refine wi_S ?_ | refine wi_R1 ?_ | refine wi_R2 ?_ | refine wi_R3 ?_ | refine wi_E ?_ | refine we_call ?_ | refine we_callF ?_ | refine we_bm ?_ | refine wg_sb ?_ | refine we_m1 ?_ | refine we_rev ?_ | refine wo_add ?_ | refine wo_sub ?_ | refine wo_neg ?_ | refine wo_cmp ?_ | refine wo_eqI ?_ | refine wo_neI ?_ | refine wo_eqS ?_ | refine wo_neS ?_ | refine wo_eqB ?_ | refine wo_neB ?_ | refine wo_lenL ?_ | refine wo_lenT ?_ | refine wo_lenC ?_ | refine wo_max ?_ | refine wo_min ?_ | refine wo_slL ?_ | refine wo_listC ?_ | refine wo_listL ?_ | refine wo_listT ?_ | refine wo_tupT ?_ | refine wo_tupL ?_ | refine wo_intI ?_ | refine wo_intB ?_ | refine wo_strS ?_ | refine wo_inS ?_ | refine wo_ninS ?_) | ((with_reducible apply we_var); rfl) | ((with_reducible apply ws_frz); rfl) | ((with_reducible apply ws_app); rfl) | ((with_reducible apply ws_extend); rfl) | ((with_reducible apply ws_retA); rfl) | ((with_reducible apply ws_frz0); rfl) | ((with_reducible apply wo_isT); rfl; rfl) | (refine ⟨Nat.le_of_ble_eq_true rfl, ?_⟩) | (with_reducible refine ⟨_, rfl, ?_⟩) | (with_reducible refine wg_nm (Nat.le_of_ble_eq_true rfl) ?_) | (refine ⟨⟨Nat.le_of_ble_eq_true rfl, Nat.le_of_ble_eq_true rfl⟩, ?_⟩) | (with_reducible refine Or.inl ⟨_, rfl, ?_⟩) | (with_reducible refine Or.inr ⟨_, rfl, ?_⟩))
  refine wl_signs (A := sg) (fun c => rfl) (fun c => rfl) ?_
  repeat (first | with_reducible (first | refine ws_seq ?_ | refine nxt_nx ?_ | refine lp_nx ?_ | refine lp_ct ?_ | refine lp_bk ?_ | refine lp_rt ?_ | refine lp_rf ?_ | refine nxt_rt ?_ | refine nxt_rf ?_ | refine nxt_bk ?_ | refine nxt_ct ?_ | refine end_nx ?_ | refine end_rt ?_ | refine end_rf ?_ | refine ws_next ?_ | refine ws_brk ?_ | refine ws_cnt ?_ | refine ws_do ?_ | refine ws_ret ?_ | refine ws_retF ?_ | refine ws_retN ?_ | refine ws_set ?_ | refine ws_acc ?_ | refine ws_par ?_ | refine ws_asg ?_ | refine ws_for ?_ | refine ws_if ?_ | refine we_2 ?_ | refine we_1 ?_ | refine we_n ?_ | refine we_3 ?_ | refine we_c ?_ | refine wo_none ?_ | refine wo_some ?_ | refine wl_cons ?_ | refine wl_nil ?_ | refine we_V ?_ | refine we_own ?_ | refine we_tup ?_ | refine wl_lst ?_ | refine wt_of ?_ | refine wt_or ?_ | refine wt_and ?_ | refine wt_not ?_ | refine we_and ?_ | refine we_or ?_ | refine we_not ?_ | refine we_if ?_ | refine we_isN ?_ | refine we_notN ?_ | refine we_chain ?_ | refine wt_yes ?_ | refine wi_L ?_ | refine wi_T ?_ | refine wi_S ?_ | refine wi_R1 ?_ | refine wi_R2 ?_ | refine wi_R3 ?_ | refine wi_E ?_ | refine we_call ?_ | refine we_callF ?_ | refine we_bm ?_ | refine wg_sb ?_ | refine we_m1 ?_ | refine we_rev ?_ | refine wo_add ?_ | refine wo_sub ?_ | refine wo_neg ?_ | refine wo_cmp ?_ | refine wo_eqI ?_ | refine wo_neI ?_ | refine wo_eqS ?_ | refine wo_neS ?_ | refine wo_eqB ?_ | refine wo_neB ?_ | refine wo_lenL ?_ | refine wo_lenT ?_ | refine wo_lenC ?_ | refine wo_max ?_ | refine wo_min ?_ | refine wo_slL ?_ | refine wo_listC ?_ | refine wo_listL ?_ | refine wo_listT ?_ | refine wo_tupT ?_ | refine wo_tupL ?_ | refine wo_intI ?_ | refine wo_intB ?_ | refine wo_strS ?_ | refine wo_inS ?_ | refine wo_ninS ?_) | ((with_reducible apply we_var); rfl) | ((with_reducible apply ws_frz); rfl) | ((with_reducible apply ws_app); rfl) | ((with_reducible apply ws_extend); rfl) | ((with_reducible apply ws_retA); rfl) | ((with_reducible apply ws_frz0); rfl) | ((with_reducible apply wo_isT); rfl; rfl) | (refine ⟨Nat.le_of_ble_eq_true rfl, ?_⟩) | (with_reducible refine ⟨_, rfl, ?_⟩) | (with_reducible refine wg_nm (Nat.le_of_ble_eq_true rfl) ?_) | (refine ⟨⟨Nat.le_of_ble_eq_true rfl, Nat.le_of_ble_eq_true rfl⟩, ?_⟩) | (with_reducible refine Or.inl ⟨_, rfl, ?_⟩) | (with_reducible refine Or.inr ⟨_, rfl, ?_⟩))
  refine wo_joinO ha (by simp; omega) ?_
  repeat (first | with_reducible (first | refine ws_seq ?_ | refine nxt_nx ?_ | refine lp_nx ?_ | refine lp_ct ?_ | refine lp_bk ?_ | refine lp_rt ?_ | refine lp_rf ?_ | refine nxt_rt ?_ | refine nxt_rf ?_ | refine nxt_bk ?_ | refine nxt_ct ?_ | refine end_nx ?_ | refine end_rt ?_ | refine end_rf ?_ | refine ws_next ?_ | refine ws_brk ?_ | refine ws_cnt ?_ | refine ws_do ?_ | refine ws_ret ?_ | refine ws_retF ?_ | refine ws_retN ?_ | refine ws_set ?_ | refine ws_acc ?_ | refine ws_par ?_ | refine ws_asg ?_ | refine ws_for ?_ | refine ws_if ?_ | refine we_2 ?_ | refine we_1 ?_ | refine we_n ?_ | refine we_3 ?_ | refine we_c ?_ | refine wo_none ?_ | refine wo_some ?_ | refine wl_cons ?_ | refine wl_nil ?_ | refine we_V ?_ | refine we_own ?_ | refine we_tup ?_ | refine wl_lst ?_ | refine wt_of ?_ | refine wt_or ?_ | refine wt_and ?_ | refine wt_not ?_ | refine we_and ?_ | refine we_or ?_ | refine we_not ?_ | refine we_if ?_ | refine we_isN ?_ | refine we_notN ?_ | refine we_chain ?_ | refine wt_yes ?_ | refine wi_L ?_ | refine wi_T ?_ | refine wi_S ?_ | refine wi_R1 ?_ | refine wi_R2 ?_ | refine wi_R3 ?_ | refine wi_E ?_ | refine we_call ?_ | refine we_callF ?_ | refine we_bm ?_ | refine wg_sb ?_ | refine we_m1 ?_ | refine we_rev ?_ | refine wo_add ?_ | refine wo_sub ?_ | refine wo_neg ?_ | refine wo_cmp ?_ | refine wo_eqI ?_ | refine wo_neI ?_ | refine wo_eqS ?_ | refine wo_neS ?_ | refine wo_eqB ?_ | refine wo_neB ?_ | refine wo_lenL ?_ | refine wo_lenT ?_ | refine wo_lenC ?_ | refine wo_max ?_ | refine wo_min ?_ | refine wo_slL ?_ | refine wo_listC ?_ | refine wo_listL ?_ | refine wo_listT ?_ | refine wo_tupT ?_ | refine wo_tupL ?_ | refine wo_intI ?_ | refine wo_intB ?_ | refine wo_strS ?_ | refine wo_inS ?_ | refine wo_ninS ?_) | ((with_reducible apply we_var); rfl) | ((with_reducible apply ws_frz); rfl) | ((with_reducible apply ws_app); rfl) | ((with_reducible apply ws_extend); rfl) | ((with_reducible apply ws_retA); rfl) | ((with_reducible apply ws_frz0); rfl) | ((with_reducible apply wo_isT); rfl; rfl) | (refine ⟨Nat.le_of_ble_eq_true rfl, ?_⟩) | (with_reducible refine ⟨_, rfl, ?_⟩) | (with_reducible refine wg_nm (Nat.le_of_ble_eq_true rfl) ?_) | (refine ⟨⟨Nat.le_of_ble_eq_true rfl, Nat.le_of_ble_eq_true rfl⟩, ?_⟩) | (with_reducible refine Or.inl ⟨_, rfl, ?_⟩) | (with_reducible refine Or.inr ⟨_, rfl, ?_⟩))
  refine ⟨by have := join_len (s := []) fs; simp at this; omega, fun c => ?_, ?_⟩
  · repeat (first | with_reducible (first | refine ws_seq ?_ | refine nxt_nx ?_ | refine lp_nx ?_ | refine lp_ct ?_ | refine lp_bk ?_ | refine lp_rt ?_ | refine lp_rf ?_ | refine nxt_rt ?_ | refine nxt_rf ?_ | refine nxt_bk ?_ | refine nxt_ct ?_ | refine end_nx ?_ | refine end_rt ?_ | refine end_rf ?_ | refine ws_next ?_ | refine ws_brk ?_ | refine ws_cnt ?_ | refine ws_do ?_ | refine ws_ret ?_ | refine ws_retF ?_ | refine ws_retN ?_ | refine ws_set ?_ | refine ws_acc ?_ | refine ws_par ?_ | refine ws_asg ?_ | refine ws_for ?_ | refine ws_if ?_ | refine we_2 ?_ | refine we_1 ?_ | refine we_n ?_ | refine we_3 ?_ | refine we_c ?_ | refine wo_none ?_ | refine wo_some ?_ | refine wl_cons ?_ | refine wl_nil ?_ | refine we_V ?_ | refine we_own ?_ | refine we_tup ?_ | refine wl_lst ?_ | refine wt_of ?_ | refine wt_or ?_ | refine wt_and ?_ | refine wt_not ?_ | refine we_and ?_ | refine we_or ?_ | refine we_not ?_ | refine we_if ?_ | refine we_isN ?_ | refine we_notN ?_ | refine we_chain ?_ | refine wt_yes ?_ | refine wi_L ?_ | refine wi_T ?_ | refine wi_S ?_ | refine wi_R1 ?_ | refine wi_R2 ?_ | refine wi_R3 ?_ | refine wi_E ?_ | refine we_call ?_ | refine we_callF ?_ | refine we_bm ?_ | refine wg_sb ?_ | refine we_m1 ?_ | refine we_rev ?_ | refine wo_add ?_ | refine wo_sub ?_ | refine wo_neg ?_ | refine wo_cmp ?_ | refine wo_eqI ?_ | refine wo_neI ?_ | refine wo_eqS ?_ | refine wo_neS ?_ | refine wo_eqB ?_ | refine wo_neB ?_ | refine wo_lenL ?_ | refine wo_lenT ?_ | refine wo_lenC ?_ | refine wo_max ?_ | refine wo_min ?_ | refine wo_slL ?_ | refine wo_listC ?_ | refine wo_listL ?_ | refine wo_listT ?_ | refine wo_tupT ?_ | refine wo_tupL ?_ | refine wo_intI ?_ | refine wo_intB ?_ | refine wo_strS ?_ | refine wo_inS ?_ | refine wo_ninS ?_) | ((with_reducible apply we_var); rfl) | ((with_reducible apply ws_frz); rfl) | ((with_reducible apply ws_app); rfl) | ((with_reducible apply ws_extend); rfl) | ((with_reducible apply ws_retA); rfl) | ((with_reducible apply ws_frz0); rfl) | ((with_reducible apply wo_isT); rfl; rfl) | (refine ⟨Nat.le_of_ble_eq_true rfl, ?_⟩) | (with_reducible refine ⟨_, rfl, ?_⟩) | (with_reducible refine wg_nm (Nat.le_of_ble_eq_true rfl) ?_) | (refine ⟨⟨Nat.le_of_ble_eq_true rfl, Nat.le_of_ble_eq_true rfl⟩, ?_⟩) | (with_reducible refine Or.inl ⟨_, rfl, ?_⟩) | (with_reducible refine Or.inr ⟨_, rfl, ?_⟩))
    exact ⟨rfl, rfl⟩
  have hs : ∀ c ∈ joinD [] fs, c ∈ sg := fun c hc => by
    rcases join_mem hc with h1 | ⟨z, hz, h1⟩
    · cases h1
    · exact h.sg z hz c h1
  repeat (first | with_reducible (first | refine ws_seq ?_ | refine nxt_nx ?_ | refine lp_nx ?_ | refine lp_ct ?_ | refine lp_bk ?_ | refine lp_rt ?_ | refine lp_rf ?_ | refine nxt_rt ?_ | refine nxt_rf ?_ | refine nxt_bk ?_ | refine nxt_ct ?_ | refine end_nx ?_ | refine end_rt ?_ | refine end_rf ?_ | refine ws_next ?_ | refine ws_brk ?_ | refine ws_cnt ?_ | refine ws_do ?_ | refine ws_ret ?_ | refine ws_retF ?_ | refine ws_retN ?_ | refine ws_set ?_ | refine ws_acc ?_ | refine ws_par ?_ | refine ws_asg ?_ | refine ws_for ?_ | refine ws_if ?_ | refine we_2 ?_ | refine we_1 ?_ | refine we_n ?_ | refine we_3 ?_ | refine we_c ?_ | refine wo_none ?_ | refine wo_some ?_ | refine wl_cons ?_ | refine wl_nil ?_ | refine we_V ?_ | refine we_own ?_ | refine we_tup ?_ | refine wl_lst ?_ | refine wt_of ?_ | refine wt_or ?_ | refine wt_and ?_ | refine wt_not ?_ | refine we_and ?_ | refine we_or ?_ | refine we_not ?_ | refine we_if ?_ | refine we_isN ?_ | refine we_notN ?_ | refine we_chain ?_ | refine wt_yes ?_ | refine wi_L ?_ | refine wi_T ?_ | refine wi_S ?_ | refine wi_R1 ?_ | refine wi_R2 ?_ | refine wi_R3 ?_ | refine wi_E ?_ | refine we_call ?_ | refine we_callF ?_ | refine we_bm ?_ | refine wg_sb ?_ | refine we_m1 ?_ | refine we_rev ?_ | refine wo_add ?_ | refine wo_sub ?_ | refine wo_neg ?_ | refine wo_cmp ?_ | refine wo_eqI ?_ | refine wo_neI ?_ | refine wo_eqS ?_ | refine wo_neS ?_ | refine wo_eqB ?_ | refine wo_neB ?_ | refine wo_lenL ?_ | refine wo_lenT ?_ | refine wo_lenC ?_ | refine wo_max ?_ | refine wo_min ?_ | refine wo_slL ?_ | refine wo_listC ?_ | refine wo_listL ?_ | refine wo_listT ?_ | refine wo_tupT ?_ | refine wo_tupL ?_ | refine wo_intI ?_ | refine wo_intB ?_ | refine wo_strS ?_ | refine wo_inS ?_ | refine wo_ninS ?_) | ((with_reducible apply we_var); rfl) | ((with_reducible apply ws_frz); rfl) | ((with_reducible apply ws_app); rfl) | ((with_reducible apply ws_extend); rfl) | ((with_reducible apply ws_retA); rfl) | ((with_reducible apply ws_frz0); rfl) | ((with_reducible apply wo_isT); rfl; rfl) | (refine ⟨Nat.le_of_ble_eq_true rfl, ?_⟩) | (with_reducible refine ⟨_, rfl, ?_⟩) | (with_reducible refine wg_nm (Nat.le_of_ble_eq_true rfl) ?_) | (refine ⟨⟨Nat.le_of_ble_eq_true rfl, Nat.le_of_ble_eq_true rfl⟩, ?_⟩) | (with_reducible refine Or.inl ⟨_, rfl, ?_⟩) | (with_reducible refine Or.inr ⟨_, rfl, ?_⟩))
  refine wo_neNil (okS_filter (sb_okS fun c hc => sg_sb c (hs c hc))) ?_
  rw [filt_empty, decide_eq_true hs]
  repeat (first | with_reducible (first | refine ws_seq ?_ | refine nxt_nx ?_ | refine lp_nx ?_ | refine lp_ct ?_ | refine lp_bk ?_ | refine lp_rt ?_ | refine lp_rf ?_ | refine nxt_rt ?_ | refine nxt_rf ?_ | refine nxt_bk ?_ | refine nxt_ct ?_ | refine end_nx ?_ | refine end_rt ?_ | refine end_rf ?_ | refine ws_next ?_ | refine ws_brk ?_ | refine ws_cnt ?_ | refine ws_do ?_ | refine ws_ret ?_ | refine ws_retF ?_ | refine ws_retN ?_ | refine ws_set ?_ | refine ws_acc ?_ | refine ws_par ?_ | refine ws_asg ?_ | refine ws_for ?_ | refine ws_if ?_ | refine we_2 ?_ | refine we_1 ?_ | refine we_n ?_ | refine we_3 ?_ | refine we_c ?_ | refine wo_none ?_ | refine wo_some ?_ | refine wl_cons ?_ | refine wl_nil ?_ | refine we_V ?_ | refine we_own ?_ | refine we_tup ?_ | refine wl_lst ?_ | refine wt_of ?_ | refine wt_or ?_ | refine wt_and ?_ | refine wt_not ?_ | refine we_and ?_ | refine we_or ?_ | refine we_not ?_ | refine we_if ?_ | refine we_isN ?_ | refine we_notN ?_ | refine we_chain ?_ | refine wt_yes ?_ | refine wi_L ?_ | refine wi_T ?_ | refine wi_S ?_ | refine wi_R1 ?_ | refine wi_R2 ?_ | refine wi_R3 ?_ | refine wi_E ?_ | refine we_call ?_ | refine we_callF ?_ | refine we_bm ?_ | refine wg_sb ?_ | refine we_m1 ?_ | refine we_rev ?_ | refine wo_add ?_ | refine wo_sub ?_ | refine wo_neg ?_ | refine wo_cmp ?_ | refine wo_eqI ?_ | refine wo_neI ?_ | refine wo_eqS ?_ | refine wo_neS ?_ | refine wo_eqB ?_ | refine wo_neB ?_ | refine wo_lenL ?_ | refine wo_lenT ?_ | refine wo_lenC ?_ | refine wo_max ?_ | refine wo_min ?_ | refine wo_slL ?_ | refine wo_listC ?_ | refine wo_listL ?_ | refine wo_listT ?_ | refine wo_tupT ?_ | refine wo_tupL ?_ | refine wo_intI ?_ | refine wo_intB ?_ | refine wo_strS ?_ | refine wo_inS ?_ | refine wo_ninS ?_) | ((with_reducible apply we_var); rfl) | ((with_reducible apply ws_frz); rfl) | ((with_reducible apply ws_app); rfl) | ((with_reducible apply ws_extend); rfl) | ((with_reducible apply ws_retA); rfl) | ((with_reducible apply ws_frz0); rfl) | ((with_reducible apply wo_isT); rfl; rfl) | (refine ⟨Nat.le_of_ble_eq_true rfl, ?_⟩) | (with_reducible refine ⟨_, rfl, ?_⟩) | (with_reducible refine wg_nm (Nat.le_of_ble_eq_true rfl) ?_) | (refine ⟨⟨Nat.le_of_ble_eq_true rfl, Nat.le_of_ble_eq_true rfl⟩, ?_⟩) | (with_reducible refine Or.inl ⟨_, rfl, ?_⟩) | (with_reducible refine Or.inr ⟨_, rfl, ?_⟩))
  refine ⟨fun z => (nomatch z), fun _ => ?_⟩
  repeat (first | with_reducible (first | refine ws_seq ?_ | refine nxt_nx ?_ | refine lp_nx ?_ | refine lp_ct ?_ | refine lp_bk ?_ | refine lp_rt ?_ | refine lp_rf ?_ | refine nxt_rt ?_ | refine nxt_rf ?_ | refine nxt_bk ?_ | refine nxt_ct ?_ | refine end_nx ?_ | refine end_rt ?_ | refine end_rf ?_ | refine ws_next ?_ | refine ws_brk ?_ | refine ws_cnt ?_ | refine ws_do ?_ | refine ws_ret ?_ | refine ws_retF ?_ | refine ws_retN ?_ | refine ws_set ?_ | refine ws_acc ?_ | refine ws_par ?_ | refine ws_asg ?_ | refine ws_for ?_ | refine ws_if ?_ | refine we_2 ?_ | refine we_1 ?_ | refine we_n ?_ | refine we_3 ?_ | refine we_c ?_ | refine wo_none ?_ | refine wo_some ?_ | refine wl_cons ?_ | refine wl_nil ?_ | refine we_V ?_ | refine we_own ?_ | refine we_tup ?_ | refine wl_lst ?_ | refine wt_of ?_ | refine wt_or ?_ | refine wt_and ?_ | refine wt_not ?_ | refine we_and ?_ | refine we_or ?_ | refine we_not ?_ | refine we_if ?_ | refine we_isN ?_ | refine we_notN ?_ | refine we_chain ?_ | refine wt_yes ?_ | refine wi_L ?_ | refine wi_T ?_ | refine wi_S ?_ | refine wi_R1 ?_ | refine wi_R2 ?_ | refine wi_R3 ?_ | refine wi_E ?_ | refine we_call ?_ | refine we_callF ?_ | refine we_bm ?_ | refine wg_sb ?_ | refine we_m1 ?_ | refine we_rev ?_ | refine wo_add ?_ | refine wo_sub ?_ | refine wo_neg ?_ | refine wo_cmp ?_ | refine wo_eqI ?_ | refine wo_neI ?_ | refine wo_eqS ?_ | refine wo_neS ?_ | refine wo_eqB ?_ | refine wo_neB ?_ | refine wo_lenL ?_ | refine wo_lenT ?_ | refine wo_lenC ?_ | refine wo_max ?_ | refine wo_min ?_ | refine wo_slL ?_ | refine wo_listC ?_ | refine wo_listL ?_ | refine wo_listT ?_ | refine wo_tupT ?_ | refine wo_tupL ?_ | refine wo_intI ?_ | refine wo_intB ?_ | refine wo_strS ?_ | refine wo_inS ?_ | refine wo_ninS ?_) | ((with_reducible apply we_var); rfl) | ((with_reducible apply ws_frz); rfl) | ((with_reducible apply ws_app); rfl) | ((with_reducible apply ws_extend); rfl) | ((with_reducible apply ws_retA); rfl) | ((with_reducible apply ws_frz0); rfl) | ((with_reducible apply wo_isT); rfl; rfl) | (refine ⟨Nat.le_of_ble_eq_true rfl, ?_⟩) | (with_reducible refine ⟨_, rfl, ?_⟩) | (with_reducible refine wg_nm (Nat.le_of_ble_eq_true rfl) ?_) | (refine ⟨⟨Nat.le_of_ble_eq_true rfl, Nat.le_of_ble_eq_true rfl⟩, ?_⟩) | (with_reducible refine Or.inl ⟨_, rfl, ?_⟩) | (with_reducible refine Or.inr ⟨_, rfl, ?_⟩))
  refine wo_joinO ha (by simp; omega) ?_
  repeat (first | with_reducible (first | refine ws_seq ?_ | refine nxt_nx ?_ | refine lp_nx ?_ | refine lp_ct ?_ | refine lp_bk ?_ | refine lp_rt ?_ | refine lp_rf ?_ | refine nxt_rt ?_ | refine nxt_rf ?_ | refine nxt_bk ?_ | refine nxt_ct ?_ | refine end_nx ?_ | refine end_rt ?_ | refine end_rf ?_ | refine ws_next ?_ | refine ws_brk ?_ | refine ws_cnt ?_ | refine ws_do ?_ | refine ws_ret ?_ | refine ws_retF ?_ | refine ws_retN ?_ | refine ws_set ?_ | refine ws_acc ?_ | refine ws_par ?_ | refine ws_asg ?_ | refine ws_for ?_ | refine ws_if ?_ | refine we_2 ?_ | refine we_1 ?_ | refine we_n ?_ | refine we_3 ?_ | refine we_c ?_ | refine wo_none ?_ | refine wo_some ?_ | refine wl_cons ?_ | refine wl_nil ?_ | refine we_V ?_ | refine we_own ?_ | refine we_tup ?_ | refine wl_lst ?_ | refine wt_of ?_ | refine wt_or ?_ | refine wt_and ?_ | refine wt_not ?_ | refine we_and ?_ | refine we_or ?_ | refine we_not ?_ | refine we_if ?_ | refine we_isN ?_ | refine we_notN ?_ | refine we_chain ?_ | refine wt_yes ?_ | refine wi_L ?_ | refine wi_T ?_ | refine wi_S ?_ | refine wi_R1 ?_ | refine wi_R2 ?_ | refine wi_R3 ?_ | refine wi_E ?_ | refine we_call ?_ | refine we_callF ?_ | refine we_bm ?_ | refine wg_sb ?_ | refine we_m1 ?_ | refine we_rev ?_ | refine wo_add ?_ | refine wo_sub ?_ | refine wo_neg ?_ | refine wo_cmp ?_ | refine wo_eqI ?_ | refine wo_neI ?_ | refine wo_eqS ?_ | refine wo_neS ?_ | refine wo_eqB ?_ | refine wo_neB ?_ | refine wo_lenL ?_ | refine wo_lenT ?_ | refine wo_lenC ?_ | refine wo_max ?_ | refine wo_min ?_ | refine wo_slL ?_ | refine wo_listC ?_ | refine wo_listL ?_ | refine wo_listT ?_ | refine wo_tupT ?_ | refine wo_tupL ?_ | refine wo_intI ?_ | refine wo_intB ?_ | refine wo_strS ?_ | refine wo_inS ?_ | refine wo_ninS ?_) | ((with_reducible apply we_var); rfl) | ((with_reducible apply ws_frz); rfl) | ((with_reducible apply ws_app); rfl) | ((with_reducible apply ws_extend); rfl) | ((with_reducible apply ws_retA); rfl) | ((with_reducible apply ws_frz0); rfl) | ((with_reducible apply wo_isT); rfl; rfl) | (refine ⟨Nat.le_of_ble_eq_true rfl, ?_⟩) | (with_reducible refine ⟨_, rfl, ?_⟩) | (with_reducible refine wg_nm (Nat.le_of_ble_eq_true rfl) ?_) | (refine ⟨⟨Nat.le_of_ble_eq_true rfl, Nat.le_of_ble_eq_true rfl⟩, ?_⟩) | (with_reducible refine Or.inl ⟨_, rfl, ?_⟩) | (with_reducible refine Or.inr ⟨_, rfl, ?_⟩))
  obtain ⟨hb, hbl⟩ := h.body
  refine wo_len (by omega) ?_
  repeat (first | with_reducible (first | refine ws_seq ?_ | refine nxt_nx ?_ | refine lp_nx ?_ | refine lp_ct ?_ | refine lp_bk ?_ | refine lp_rt ?_ | refine lp_rf ?_ | refine nxt_rt ?_ | refine nxt_rf ?_ | refine nxt_bk ?_ | refine nxt_ct ?_ | refine end_nx ?_ | refine end_rt ?_ | refine end_rf ?_ | refine ws_next ?_ | refine ws_brk ?_ | refine ws_cnt ?_ | refine ws_do ?_ | refine ws_ret ?_ | refine ws_retF ?_ | refine ws_retN ?_ | refine ws_set ?_ | refine ws_acc ?_ | refine ws_par ?_ | refine ws_asg ?_ | refine ws_for ?_ | refine ws_if ?_ | refine we_2 ?_ | refine we_1 ?_ | refine we_n ?_ | refine we_3 ?_ | refine we_c ?_ | refine wo_none ?_ | refine wo_some ?_ | refine wl_cons ?_ | refine wl_nil ?_ | refine we_V ?_ | refine we_own ?_ | refine we_tup ?_ | refine wl_lst ?_ | refine wt_of ?_ | refine wt_or ?_ | refine wt_and ?_ | refine wt_not ?_ | refine we_and ?_ | refine we_or ?_ | refine we_not ?_ | refine we_if ?_ | refine we_isN ?_ | refine we_notN ?_ | refine we_chain ?_ | refine wt_yes ?_ | refine wi_L ?_ | refine wi_T ?_ | refine wi_S ?_ | refine wi_R1 ?_ | refine wi_R2 ?_ | refine wi_R3 ?_ | refine wi_E ?_ | refine we_call ?_ | refine we_callF ?_ | refine we_bm ?_ | refine wg_sb ?_ | refine we_m1 ?_ | refine we_rev ?_ | refine wo_add ?_ | refine wo_sub ?_ | refine wo_neg ?_ | refine wo_cmp ?_ | refine wo_eqI ?_ | refine wo_neI ?_ | refine wo_eqS ?_ | refine wo_neS ?_ | refine wo_eqB ?_ | refine wo_neB ?_ | refine wo_lenL ?_ | refine wo_lenT ?_ | refine wo_lenC ?_ | refine wo_max ?_ | refine wo_min ?_ | refine wo_slL ?_ | refine wo_listC ?_ | refine wo_listL ?_ | refine wo_listT ?_ | refine wo_tupT ?_ | refine wo_tupL ?_ | refine wo_intI ?_ | refine wo_intB ?_ | refine wo_strS ?_ | refine wo_inS ?_ | refine wo_ninS ?_) | ((with_reducible apply we_var); rfl) | ((with_reducible apply ws_frz); rfl) | ((with_reducible apply ws_app); rfl) | ((with_reducible apply ws_extend); rfl) | ((with_reducible apply ws_retA); rfl) | ((with_reducible apply ws_frz0); rfl) | ((with_reducible apply wo_isT); rfl; rfl) | (refine ⟨Nat.le_of_ble_eq_true rfl, ?_⟩) | (with_reducible refine ⟨_, rfl, ?_⟩) | (with_reducible refine wg_nm (Nat.le_of_ble_eq_true rfl) ?_) | (refine ⟨⟨Nat.le_of_ble_eq_true rfl, Nat.le_of_ble_eq_true rfl⟩, ?_⟩) | (with_reducible refine Or.inl ⟨_, rfl, ?_⟩) | (with_reducible refine Or.inr ⟨_, rfl, ?_⟩))
  refine wo_strI ⟨by omega, by omega⟩ ?_
  have l1 : (numL (joinD [124] fs).length).length ≤ 6 := numL_le (by omega) (by omega)
  have l2 : (numL (sumV (joinD [124] fs))).length ≤ 6 := numL_le (by omega) (by have := sumV_lt (joinD [124] fs); omega)
  rw [Int.toNat_natCast]
  repeat (first | with_reducible (first | refine ws_seq ?_ | refine nxt_nx ?_ | refine lp_nx ?_ | refine lp_ct ?_ | refine lp_bk ?_ | refine lp_rt ?_ | refine lp_rf ?_ | refine nxt_rt ?_ | refine nxt_rf ?_ | refine nxt_bk ?_ | refine nxt_ct ?_ | refine end_nx ?_ | refine end_rt ?_ | refine end_rf ?_ | refine ws_next ?_ | refine ws_brk ?_ | refine ws_cnt ?_ | refine ws_do ?_ | refine ws_ret ?_ | refine ws_retF ?_ | refine ws_retN ?_ | refine ws_set ?_ | refine ws_acc ?_ | refine ws_par ?_ | refine ws_asg ?_ | refine ws_for ?_ | refine ws_if ?_ | refine we_2 ?_ | refine we_1 ?_ | refine we_n ?_ | refine we_3 ?_ | refine we_c ?_ | refine wo_none ?_ | refine wo_some ?_ | refine wl_cons ?_ | refine wl_nil ?_ | refine we_V ?_ | refine we_own ?_ | refine we_tup ?_ | refine wl_lst ?_ | refine wt_of ?_ | refine wt_or ?_ | refine wt_and ?_ | refine wt_not ?_ | refine we_and ?_ | refine we_or ?_ | refine we_not ?_ | refine we_if ?_ | refine we_isN ?_ | refine we_notN ?_ | refine we_chain ?_ | refine wt_yes ?_ | refine wi_L ?_ | refine wi_T ?_ | refine wi_S ?_ | refine wi_R1 ?_ | refine wi_R2 ?_ | refine wi_R3 ?_ | refine wi_E ?_ | refine we_call ?_ | refine we_callF ?_ | refine we_bm ?_ | refine wg_sb ?_ | refine we_m1 ?_ | refine we_rev ?_ | refine wo_add ?_ | refine wo_sub ?_ | refine wo_neg ?_ | refine wo_cmp ?_ | refine wo_eqI ?_ | refine wo_neI ?_ | refine wo_eqS ?_ | refine wo_neS ?_ | refine wo_eqB ?_ | refine wo_neB ?_ | refine wo_lenL ?_ | refine wo_lenT ?_ | refine wo_lenC ?_ | refine wo_max ?_ | refine wo_min ?_ | refine wo_slL ?_ | refine wo_listC ?_ | refine wo_listL ?_ | refine wo_listT ?_ | refine wo_tupT ?_ | refine wo_tupL ?_ | refine wo_intI ?_ | refine wo_intB ?_ | refine wo_strS ?_ | refine wo_inS ?_ | refine wo_ninS ?_) | ((with_reducible apply we_var); rfl) | ((with_reducible apply ws_frz); rfl) | ((with_reducible apply ws_app); rfl) | ((with_reducible apply ws_extend); rfl) | ((with_reducible apply ws_retA); rfl) | ((with_reducible apply ws_frz0); rfl) | ((with_reducible apply wo_isT); rfl; rfl) | (refine ⟨Nat.le_of_ble_eq_true rfl, ?_⟩) | (with_reducible refine ⟨_, rfl, ?_⟩) | (with_reducible refine wg_nm (Nat.le_of_ble_eq_true rfl) ?_) | (refine ⟨⟨Nat.le_of_ble_eq_true rfl, Nat.le_of_ble_eq_true rfl⟩, ?_⟩) | (with_reducible refine Or.inl ⟨_, rfl, ?_⟩) | (with_reducible refine Or.inr ⟨_, rfl, ?_⟩))
  refine wo_addS (by simp; omega) ?_
  repeat (first | with_reducible (first | refine ws_seq ?_ | refine nxt_nx ?_ | refine lp_nx ?_ | refine lp_ct ?_ | refine lp_bk ?_ | refine lp_rt ?_ | refine lp_rf ?_ | refine nxt_rt ?_ | refine nxt_rf ?_ | refine nxt_bk ?_ | refine nxt_ct ?_ | refine end_nx ?_ | refine end_rt ?_ | refine end_rf ?_ | refine ws_next ?_ | refine ws_brk ?_ | refine ws_cnt ?_ | refine ws_do ?_ | refine ws_ret ?_ | refine ws_retF ?_ | refine ws_retN ?_ | refine ws_set ?_ | refine ws_acc ?_ | refine ws_par ?_ | refine ws_asg ?_ | refine ws_for ?_ | refine ws_if ?_ | refine we_2 ?_ | refine we_1 ?_ | refine we_n ?_ | refine we_3 ?_ | refine we_c ?_ | refine wo_none ?_ | refine wo_some ?_ | refine wl_cons ?_ | refine wl_nil ?_ | refine we_V ?_ | refine we_own ?_ | refine we_tup ?_ | refine wl_lst ?_ | refine wt_of ?_ | refine wt_or ?_ | refine wt_and ?_ | refine wt_not ?_ | refine we_and ?_ | refine we_or ?_ | refine we_not ?_ | refine we_if ?_ | refine we_isN ?_ | refine we_notN ?_ | refine we_chain ?_ | refine wt_yes ?_ | refine wi_L ?_ | refine wi_T ?_ | refine wi_S ?_ | refine wi_R1 ?_ | refine wi_R2 ?_ | refine wi_R3 ?_ | refine wi_E ?_ | refine we_call ?_ | refine we_callF ?_ | refine we_bm ?_ | refine wg_sb ?_ | refine we_m1 ?_ | refine we_rev ?_ | refine wo_add ?_ | refine wo_sub ?_ | refine wo_neg ?_ | refine wo_cmp ?_ | refine wo_eqI ?_ | refine wo_neI ?_ | refine wo_eqS ?_ | refine wo_neS ?_ | refine wo_eqB ?_ | refine wo_neB ?_ | refine wo_lenL ?_ | refine wo_lenT ?_ | refine wo_lenC ?_ | refine wo_max ?_ | refine wo_min ?_ | refine wo_slL ?_ | refine wo_listC ?_ | refine wo_listL ?_ | refine wo_listT ?_ | refine wo_tupT ?_ | refine wo_tupL ?_ | refine wo_intI ?_ | refine wo_intB ?_ | refine wo_strS ?_ | refine wo_inS ?_ | refine wo_ninS ?_) | ((with_reducible apply we_var); rfl) | ((with_reducible apply ws_frz); rfl) | ((with_reducible apply ws_app); rfl) | ((with_reducible apply ws_extend); rfl) | ((with_reducible apply ws_retA); rfl) | ((with_reducible apply ws_frz0); rfl) | ((with_reducible apply wo_isT); rfl; rfl) | (refine ⟨Nat.le_of_ble_eq_true rfl, ?_⟩) | (with_reducible refine ⟨_, rfl, ?_⟩) | (with_reducible refine wg_nm (Nat.le_of_ble_eq_true rfl) ?_) | (refine ⟨⟨Nat.le_of_ble_eq_true rfl, Nat.le_of_ble_eq_true rfl⟩, ?_⟩) | (with_reducible refine Or.inl ⟨_, rfl, ?_⟩) | (with_reducible refine Or.inr ⟨_, rfl, ?_⟩))
  refine (sum_ok hb).mono fun o S1 e => ?_
  obtain ⟨rfl, rfl⟩ := e
  repeat (first | with_reducible (first | refine ws_seq ?_ | refine nxt_nx ?_ | refine lp_nx ?_ | refine lp_ct ?_ | refine lp_bk ?_ | refine lp_rt ?_ | refine lp_rf ?_ | refine nxt_rt ?_ | refine nxt_rf ?_ | refine nxt_bk ?_ | refine nxt_ct ?_ | refine end_nx ?_ | refine end_rt ?_ | refine end_rf ?_ | refine ws_next ?_ | refine ws_brk ?_ | refine ws_cnt ?_ | refine ws_do ?_ | refine ws_ret ?_ | refine ws_retF ?_ | refine ws_retN ?_ | refine ws_set ?_ | refine ws_acc ?_ | refine ws_par ?_ | refine ws_asg ?_ | refine ws_for ?_ | refine ws_if ?_ | refine we_2 ?_ | refine we_1 ?_ | refine we_n ?_ | refine we_3 ?_ | refine we_c ?_ | refine wo_none ?_ | refine wo_some ?_ | refine wl_cons ?_ | refine wl_nil ?_ | refine we_V ?_ | refine we_own ?_ | refine we_tup ?_ | refine wl_lst ?_ | refine wt_of ?_ | refine wt_or ?_ | refine wt_and ?_ | refine wt_not ?_ | refine we_and ?_ | refine we_or ?_ | refine we_not ?_ | refine we_if ?_ | refine we_isN ?_ | refine we_notN ?_ | refine we_chain ?_ | refine wt_yes ?_ | refine wi_L ?_ | refine wi_T ?_ | refine wi_S ?_ | refine wi_R1 ?_ | refine wi_R2 ?_ | refine wi_R3 ?_ | refine wi_E ?_ | refine we_call ?_ | refine we_callF ?_ | refine we_bm ?_ | refine wg_sb ?_ | refine we_m1 ?_ | refine we_rev ?_ | refine wo_add ?_ | refine wo_sub ?_ | refine wo_neg ?_ | refine wo_cmp ?_ | refine wo_eqI ?_ | refine wo_neI ?_ | refine wo_eqS ?_ | refine wo_neS ?_ | refine wo_eqB ?_ | refine wo_neB ?_ | refine wo_lenL ?_ | refine wo_lenT ?_ | refine wo_lenC ?_ | refine wo_max ?_ | refine wo_min ?_ | refine wo_slL ?_ | refine wo_listC ?_ | refine wo_listL ?_ | refine wo_listT ?_ | refine wo_tupT ?_ | refine wo_tupL ?_ | refine wo_intI ?_ | refine wo_intB ?_ | refine wo_strS ?_ | refine wo_inS ?_ | refine wo_ninS ?_) | ((with_reducible apply we_var); rfl) | ((with_reducible apply ws_frz); rfl) | ((with_reducible apply ws_app); rfl) | ((with_reducible apply ws_extend); rfl) | ((with_reducible apply ws_retA); rfl) | ((with_reducible apply ws_frz0); rfl) | ((with_reducible apply wo_isT); rfl; rfl) | (refine ⟨Nat.le_of_ble_eq_true rfl, ?_⟩) | (with_reducible refine ⟨_, rfl, ?_⟩) | (with_reducible refine wg_nm (Nat.le_of_ble_eq_true rfl) ?_) | (refine ⟨⟨Nat.le_of_ble_eq_true rfl, Nat.le_of_ble_eq_true rfl⟩, ?_⟩) | (with_reducible refine Or.inl ⟨_, rfl, ?_⟩) | (with_reducible refine Or.inr ⟨_, rfl, ?_⟩))
  refine wo_strI ⟨by omega, by have := sumV_lt (joinD [124] fs); omega⟩ ?_
  rw [Int.toNat_natCast]
  refine wo_addS (by simp; omega) ?_
  repeat (first | with_reducible (first | refine ws_seq ?_ | refine nxt_nx ?_ | refine lp_nx ?_ | refine lp_ct ?_ | refine lp_bk ?_ | refine lp_rt ?_ | refine lp_rf ?_ | refine nxt_rt ?_ | refine nxt_rf ?_ | refine nxt_bk ?_ | refine nxt_ct ?_ | refine end_nx ?_ | refine end_rt ?_ | refine end_rf ?_ | refine ws_next ?_ | refine ws_brk ?_ | refine ws_cnt ?_ | refine ws_do ?_ | refine ws_ret ?_ | refine ws_retF ?_ | refine ws_retN ?_ | refine ws_set ?_ | refine ws_acc ?_ | refine ws_par ?_ | refine ws_asg ?_ | refine ws_for ?_ | refine ws_if ?_ | refine we_2 ?_ | refine we_1 ?_ | refine we_n ?_ | refine we_3 ?_ | refine we_c ?_ | refine wo_none ?_ | refine wo_some ?_ | refine wl_cons ?_ | refine wl_nil ?_ | refine we_V ?_ | refine we_own ?_ | refine we_tup ?_ | refine wl_lst ?_ | refine wt_of ?_ | refine wt_or ?_ | refine wt_and ?_ | refine wt_not ?_ | refine we_and ?_ | refine we_or ?_ | refine we_not ?_ | refine we_if ?_ | refine we_isN ?_ | refine we_notN ?_ | refine we_chain ?_ | refine wt_yes ?_ | refine wi_L ?_ | refine wi_T ?_ | refine wi_S ?_ | refine wi_R1 ?_ | refine wi_R2 ?_ | refine wi_R3 ?_ | refine wi_E ?_ | refine we_call ?_ | refine we_callF ?_ | refine we_bm ?_ | refine wg_sb ?_ | refine we_m1 ?_ | refine we_rev ?_ | refine wo_add ?_ | refine wo_sub ?_ | refine wo_neg ?_ | refine wo_cmp ?_ | refine wo_eqI ?_ | refine wo_neI ?_ | refine wo_eqS ?_ | refine wo_neS ?_ | refine wo_eqB ?_ | refine wo_neB ?_ | refine wo_lenL ?_ | refine wo_lenT ?_ | refine wo_lenC ?_ | refine wo_max ?_ | refine wo_min ?_ | refine wo_slL ?_ | refine wo_listC ?_ | refine wo_listL ?_ | refine wo_listT ?_ | refine wo_tupT ?_ | refine wo_tupL ?_ | refine wo_intI ?_ | refine wo_intB ?_ | refine wo_strS ?_ | refine wo_inS ?_ | refine wo_ninS ?_) | ((with_reducible apply we_var); rfl) | ((with_reducible apply ws_frz); rfl) | ((with_reducible apply ws_app); rfl) | ((with_reducible apply ws_extend); rfl) | ((with_reducible apply ws_retA); rfl) | ((with_reducible apply ws_frz0); rfl) | ((with_reducible apply wo_isT); rfl; rfl) | (refine ⟨Nat.le_of_ble_eq_true rfl, ?_⟩) | (with_reducible refine ⟨_, rfl, ?_⟩) | (with_reducible refine wg_nm (Nat.le_of_ble_eq_true rfl) ?_) | (refine ⟨⟨Nat.le_of_ble_eq_true rfl, Nat.le_of_ble_eq_true rfl⟩, ?_⟩) | (with_reducible refine Or.inl ⟨_, rfl, ?_⟩) | (with_reducible refine Or.inr ⟨_, rfl, ?_⟩))
  refine wo_addS (by simp; omega) ?_
  repeat (first | with_reducible (first | refine ws_seq ?_ | refine nxt_nx ?_ | refine lp_nx ?_ | refine lp_ct ?_ | refine lp_bk ?_ | refine lp_rt ?_ | refine lp_rf ?_ | refine nxt_rt ?_ | refine nxt_rf ?_ | refine nxt_bk ?_ | refine nxt_ct ?_ | refine end_nx ?_ | refine end_rt ?_ | refine end_rf ?_ | refine ws_next ?_ | refine ws_brk ?_ | refine ws_cnt ?_ | refine ws_do ?_ | refine ws_ret ?_ | refine ws_retF ?_ | refine ws_retN ?_ | refine ws_set ?_ | refine ws_acc ?_ | refine ws_par ?_ | refine ws_asg ?_ | refine ws_for ?_ | refine ws_if ?_ | refine we_2 ?_ | refine we_1 ?_ | refine we_n ?_ | refine we_3 ?_ | refine we_c ?_ | refine wo_none ?_ | refine wo_some ?_ | refine wl_cons ?_ | refine wl_nil ?_ | refine we_V ?_ | refine we_own ?_ | refine we_tup ?_ | refine wl_lst ?_ | refine wt_of ?_ | refine wt_or ?_ | refine wt_and ?_ | refine wt_not ?_ | refine we_and ?_ | refine we_or ?_ | refine we_not ?_ | refine we_if ?_ | refine we_isN ?_ | refine we_notN ?_ | refine we_chain ?_ | refine wt_yes ?_ | refine wi_L ?_ | refine wi_T ?_ | refine wi_S ?_ | refine wi_R1 ?_ | refine wi_R2 ?_ | refine wi_R3 ?_ | refine wi_E ?_ | refine we_call ?_ | refine we_callF ?_ | refine we_bm ?_ | refine wg_sb ?_ | refine we_m1 ?_ | refine we_rev ?_ | refine wo_add ?_ | refine wo_sub ?_ | refine wo_neg ?_ | refine wo_cmp ?_ | refine wo_eqI ?_ | refine wo_neI ?_ | refine wo_eqS ?_ | refine wo_neS ?_ | refine wo_eqB ?_ | refine wo_neB ?_ | refine wo_lenL ?_ | refine wo_lenT ?_ | refine wo_lenC ?_ | refine wo_max ?_ | refine wo_min ?_ | refine wo_slL ?_ | refine wo_listC ?_ | refine wo_listL ?_ | refine wo_listT ?_ | refine wo_tupT ?_ | refine wo_tupL ?_ | refine wo_intI ?_ | refine wo_intB ?_ | refine wo_strS ?_ | refine wo_inS ?_ | refine wo_ninS ?_) | ((with_reducible apply we_var); rfl) | ((with_reducible apply ws_frz); rfl) | ((with_reducible apply ws_app); rfl) | ((with_reducible apply ws_extend); rfl) | ((with_reducible apply ws_retA); rfl) | ((with_reducible apply ws_frz0); rfl) | ((with_reducible apply wo_isT); rfl; rfl) | (refine ⟨Nat.le_of_ble_eq_true rfl, ?_⟩) | (with_reducible refine ⟨_, rfl, ?_⟩) | (with_reducible refine wg_nm (Nat.le_of_ble_eq_true rfl) ?_) | (refine ⟨⟨Nat.le_of_ble_eq_true rfl, Nat.le_of_ble_eq_true rfl⟩, ?_⟩) | (with_reducible refine Or.inl ⟨_, rfl, ?_⟩) | (with_reducible refine Or.inr ⟨_, rfl, ?_⟩))
  refine wo_addS (by simp; omega) ?_
  repeat (first | with_reducible (first | refine ws_seq ?_ | refine nxt_nx ?_ | refine lp_nx ?_ | refine lp_ct ?_ | refine lp_bk ?_ | refine lp_rt ?_ | refine lp_rf ?_ | refine nxt_rt ?_ | refine nxt_rf ?_ | refine nxt_bk ?_ | refine nxt_ct ?_ | refine end_nx ?_ | refine end_rt ?_ | refine end_rf ?_ | refine ws_next ?_ | refine ws_brk ?_ | refine ws_cnt ?_ | refine ws_do ?_ | refine ws_ret ?_ | refine ws_retF ?_ | refine ws_retN ?_ | refine ws_set ?_ | refine ws_acc ?_ | refine ws_par ?_ | refine ws_asg ?_ | refine ws_for ?_ | refine ws_if ?_ | refine we_2 ?_ | refine we_1 ?_ | refine we_n ?_ | refine we_3 ?_ | refine we_c ?_ | refine wo_none ?_ | refine wo_some ?_ | refine wl_cons ?_ | refine wl_nil ?_ | refine we_V ?_ | refine we_own ?_ | refine we_tup ?_ | refine wl_lst ?_ | refine wt_of ?_ | refine wt_or ?_ | refine wt_and ?_ | refine wt_not ?_ | refine we_and ?_ | refine we_or ?_ | refine we_not ?_ | refine we_if ?_ | refine we_isN ?_ | refine we_notN ?_ | refine we_chain ?_ | refine wt_yes ?_ | refine wi_L ?_ | refine wi_T ?_ | refine wi_S ?_ | refine wi_R1 ?_ | refine wi_R2 ?_ | refine wi_R3 ?_ | refine wi_E ?_ | refine we_call ?_ | refine we_callF ?_ | refine we_bm ?_ | refine wg_sb ?_ | refine we_m1 ?_ | refine we_rev ?_ | refine wo_add ?_ | refine wo_sub ?_ | refine wo_neg ?_ | refine wo_cmp ?_ | refine wo_eqI ?_ | refine wo_neI ?_ | refine wo_eqS ?_ | refine wo_neS ?_ | refine wo_eqB ?_ | refine wo_neB ?_ | refine wo_lenL ?_ | refine wo_lenT ?_ | refine wo_lenC ?_ | refine wo_max ?_ | refine wo_min ?_ | refine wo_slL ?_ | refine wo_listC ?_ | refine wo_listL ?_ | refine wo_listT ?_ | refine wo_tupT ?_ | refine wo_tupL ?_ | refine wo_intI ?_ | refine wo_intB ?_ | refine wo_strS ?_ | refine wo_inS ?_ | refine wo_ninS ?_) | ((with_reducible apply we_var); rfl) | ((with_reducible apply ws_frz); rfl) | ((with_reducible apply ws_app); rfl) | ((with_reducible apply ws_extend); rfl) | ((with_reducible apply ws_retA); rfl) | ((with_reducible apply ws_frz0); rfl) | ((with_reducible apply wo_isT); rfl; rfl) | (refine ⟨Nat.le_of_ble_eq_true rfl, ?_⟩) | (with_reducible refine ⟨_, rfl, ?_⟩) | (with_reducible refine wg_nm (Nat.le_of_ble_eq_true rfl) ?_) | (refine ⟨⟨Nat.le_of_ble_eq_true rfl, Nat.le_of_ble_eq_true rfl⟩, ?_⟩) | (with_reducible refine Or.inl ⟨_, rfl, ?_⟩) | (with_reducible refine Or.inr ⟨_, rfl, ?_⟩))
  refine wo_addS (by simp; omega) ?_
  repeat (first | with_reducible (first | refine ws_seq ?_ | refine nxt_nx ?_ | refine lp_nx ?_ | refine lp_ct ?_ | refine lp_bk ?_ | refine lp_rt ?_ | refine lp_rf ?_ | refine nxt_rt ?_ | refine nxt_rf ?_ | refine nxt_bk ?_ | refine nxt_ct ?_ | refine end_nx ?_ | refine end_rt ?_ | refine end_rf ?_ | refine ws_next ?_ | refine ws_brk ?_ | refine ws_cnt ?_ | refine ws_do ?_ | refine ws_ret ?_ | refine ws_retF ?_ | refine ws_retN ?_ | refine ws_set ?_ | refine ws_acc ?_ | refine ws_par ?_ | refine ws_asg ?_ | refine ws_for ?_ | refine ws_if ?_ | refine we_2 ?_ | refine we_1 ?_ | refine we_n ?_ | refine we_3 ?_ | refine we_c ?_ | refine wo_none ?_ | refine wo_some ?_ | refine wl_cons ?_ | refine wl_nil ?_ | refine we_V ?_ | refine we_own ?_ | refine we_tup ?_ | refine wl_lst ?_ | refine wt_of ?_ | refine wt_or ?_ | refine wt_and ?_ | refine wt_not ?_ | refine we_and ?_ | refine we_or ?_ | refine we_not ?_ | refine we_if ?_ | refine we_isN ?_ | refine we_notN ?_ | refine we_chain ?_ | refine wt_yes ?_ | refine wi_L ?_ | refine wi_T ?_ | refine wi_S ?_ | refine wi_R1 ?_ | refine wi_R2 ?_ | refine wi_R3 ?_ | refine wi_E ?_ | refine we_call ?_ | refine we_callF ?_ | refine we_bm ?_ | refine wg_sb ?_ | refine we_m1 ?_ | refine we_rev ?_ | refine wo_add ?_ | refine wo_sub ?_ | refine wo_neg ?_ | refine wo_cmp ?_ | refine wo_eqI ?_ | refine wo_neI ?_ | refine wo_eqS ?_ | refine wo_neS ?_ | refine wo_eqB ?_ | refine wo_neB ?_ | refine wo_lenL ?_ | refine wo_lenT ?_ | refine wo_lenC ?_ | refine wo_max ?_ | refine wo_min ?_ | refine wo_slL ?_ | refine wo_listC ?_ | refine wo_listL ?_ | refine wo_listT ?_ | refine wo_tupT ?_ | refine wo_tupL ?_ | refine wo_intI ?_ | refine wo_intB ?_ | refine wo_strS ?_ | refine wo_inS ?_ | refine wo_ninS ?_) | ((with_reducible apply we_var); rfl) | ((with_reducible apply ws_frz); rfl) | ((with_reducible apply ws_app); rfl) | ((with_reducible apply ws_extend); rfl) | ((with_reducible apply ws_retA); rfl) | ((with_reducible apply ws_frz0); rfl) | ((with_reducible apply wo_isT); rfl; rfl) | (refine ⟨Nat.le_of_ble_eq_true rfl, ?_⟩) | (with_reducible refine ⟨_, rfl, ?_⟩) | (with_reducible refine wg_nm (Nat.le_of_ble_eq_true rfl) ?_) | (refine ⟨⟨Nat.le_of_ble_eq_true rfl, Nat.le_of_ble_eq_true rfl⟩, ?_⟩) | (with_reducible refine Or.inl ⟨_, rfl, ?_⟩) | (with_reducible refine Or.inr ⟨_, rfl, ?_⟩))
  exact ⟨rfl, rfl⟩
/-! a number's text -/
def numV (w : List Nat) : Option Nat := if (1 ≤ w.length ∧ w.length ≤ 6) ∧ (∀ c ∈ w, c ∈ dg) ∧ (w.head? ≠ some 48 ∨ w = [48]) then some (decV w) else none
def numD : Option Nat → D
  | some n => .int n
  | none => .non
def bNumber : EvS := (sSeq (sIf (tOrE (tNotE (tOf (eChain fLe fLe (eC (.int 1)) (eN fLen (aCons (eVar 0) aNil)) (eC (.int 6))))) (tOf (e2 fNe (eV (fLc (iS (eVar 0)) [1] (pNm 1) (tOf (e2 fNotInS (eVar 1) (eC (.str dg)))) (eVar 1))) (eV (fLst aNil))))) (sRet (eC .non)) sNext)
  (sRet (eIf (tOrE (tOf (e2 fNe (e2 fIx (eVar 0) (eC (.int 0))) (eC (.str [48])))) (tOf (e2 fEq (eVar 0) (eC (.str [48]))))) (eN fIntS (aCons (eVar 0) aNil)) (eC .non))))
def F_number : Fn := runB 1 2 bNumber
theorem number_ok {S : Sto} {w : List Nat} (hl : w.length ≤ 16777216) (hw : okS w) : W (F_number [.str w] S) fun o S' => o = .v (numD (numV w)) ∧ S' = S := by
  refine w_run rfl ?_
  show WS (bNumber [.val (.str w), .no] S) _
  unfold bNumber
  have bad : ¬ ((1 ≤ w.length ∧ w.length ≤ 6) ∧ (∀ c ∈ w, c ∈ dg) ∧ (w.head? ≠ some 48 ∨ w = [48])) → numD (numV w) = .non := fun h => by
    unfold numV
    rw [if_neg h]
    rfl
  repeat (first | with_reducible (first | refine ws_seq ?_ | refine nxt_nx ?_ | refine lp_nx ?_ | refine lp_ct ?_ | refine lp_bk ?_ | refine lp_rt ?_ | refine lp_rf ?_ | refine nxt_rt ?_ | refine nxt_rf ?_ | refine nxt_bk ?_ | refine nxt_ct ?_ | refine end_nx ?_ | refine end_rt ?_ | refine end_rf ?_ | refine ws_next ?_ | refine ws_brk ?_ | refine ws_cnt ?_ | refine ws_do ?_ | refine ws_ret ?_ | refine ws_retF ?_ | refine ws_retN ?_ | refine ws_set ?_ | refine ws_acc ?_ | refine ws_par ?_ | refine ws_asg ?_ | refine ws_for ?_ | refine ws_if ?_ | refine we_2 ?_ | refine we_1 ?_ | refine we_n ?_ | refine we_3 ?_ | refine we_c ?_ | refine wo_none ?_ | refine wo_some ?_ | refine wl_cons ?_ | refine wl_nil ?_ | refine we_V ?_ | refine we_own ?_ | refine we_tup ?_ | refine wl_lst ?_ | refine wt_of ?_ | refine wt_or ?_ | refine wt_and ?_ | refine wt_not ?_ | refine we_and ?_ | refine we_or ?_ | refine we_not ?_ | refine we_if ?_ | refine we_isN ?_ | refine we_notN ?_ | refine we_chain ?_ | refine wt_yes ?_ | refine wi_L ?_ | refine wi_T ?_ | refine wi_S ?_ | refine wi_R1 ?_ | refine wi_R2 ?_ | refine wi_R3 ?_ | refine wi_E ?_ | refine we_call ?_ | refine we_callF ?_ | refine we_bm ?_ | refine wg_sb ?_ | refine we_m1 ?_ | refine we_rev ?_ | refine wo_add ?_ | refine wo_sub ?_ | refine wo_neg ?_ | refine wo_cmp ?_ | refine wo_eqI ?_ | refine wo_neI ?_ | refine wo_eqS ?_ | refine wo_neS ?_ | refine wo_eqB ?_ | refine wo_neB ?_ | refine wo_lenL ?_ | refine wo_lenT ?_ | refine wo_lenC ?_ | refine wo_max ?_ | refine wo_min ?_ | refine wo_slL ?_ | refine wo_listC ?_ | refine wo_listL ?_ | refine wo_listT ?_ | refine wo_tupT ?_ | refine wo_tupL ?_ | refine wo_intI ?_ | refine wo_intB ?_ | refine wo_strS ?_ | refine wo_inS ?_ | refine wo_ninS ?_) | ((with_reducible apply we_var); rfl) | ((with_reducible apply ws_frz); rfl) | ((with_reducible apply ws_app); rfl) | ((with_reducible apply ws_extend); rfl) | ((with_reducible apply ws_retA); rfl) | ((with_reducible apply ws_frz0); rfl) | ((with_reducible apply wo_isT); rfl; rfl) | (refine ⟨Nat.le_of_ble_eq_true rfl, ?_⟩) | (with_reducible refine ⟨_, rfl, ?_⟩) | (with_reducible refine wg_nm (Nat.le_of_ble_eq_true rfl) ?_) | (refine ⟨⟨Nat.le_of_ble_eq_true rfl, Nat.le_of_ble_eq_true rfl⟩, ?_⟩) | (with_reducible refine Or.inl ⟨_, rfl, ?_⟩) | (with_reducible refine Or.inr ⟨_, rfl, ?_⟩))
  refine wo_len hl ?_
  repeat (first | with_reducible (first | refine ws_seq ?_ | refine nxt_nx ?_ | refine lp_nx ?_ | refine lp_ct ?_ | refine lp_bk ?_ | refine lp_rt ?_ | refine lp_rf ?_ | refine nxt_rt ?_ | refine nxt_rf ?_ | refine nxt_bk ?_ | refine nxt_ct ?_ | refine end_nx ?_ | refine end_rt ?_ | refine end_rf ?_ | refine ws_next ?_ | refine ws_brk ?_ | refine ws_cnt ?_ | refine ws_do ?_ | refine ws_ret ?_ | refine ws_retF ?_ | refine ws_retN ?_ | refine ws_set ?_ | refine ws_acc ?_ | refine ws_par ?_ | refine ws_asg ?_ | refine ws_for ?_ | refine ws_if ?_ | refine we_2 ?_ | refine we_1 ?_ | refine we_n ?_ | refine we_3 ?_ | refine we_c ?_ | refine wo_none ?_ | refine wo_some ?_ | refine wl_cons ?_ | refine wl_nil ?_ | refine we_V ?_ | refine we_own ?_ | refine we_tup ?_ | refine wl_lst ?_ | refine wt_of ?_ | refine wt_or ?_ | refine wt_and ?_ | refine wt_not ?_ | refine we_and ?_ | refine we_or ?_ | refine we_not ?_ | refine we_if ?_ | refine we_isN ?_ | refine we_notN ?_ | refine we_chain ?_ | refine wt_yes ?_ | refine wi_L ?_ | refine wi_T ?_ | refine wi_S ?_ | refine wi_R1 ?_ | refine wi_R2 ?_ | refine wi_R3 ?_ | refine wi_E ?_ | refine we_call ?_ | refine we_callF ?_ | refine we_bm ?_ | refine wg_sb ?_ | refine we_m1 ?_ | refine we_rev ?_ | refine wo_add ?_ | refine wo_sub ?_ | refine wo_neg ?_ | refine wo_cmp ?_ | refine wo_eqI ?_ | refine wo_neI ?_ | refine wo_eqS ?_ | refine wo_neS ?_ | refine wo_eqB ?_ | refine wo_neB ?_ | refine wo_lenL ?_ | refine wo_lenT ?_ | refine wo_lenC ?_ | refine wo_max ?_ | refine wo_min ?_ | refine wo_slL ?_ | refine wo_listC ?_ | refine wo_listL ?_ | refine wo_listT ?_ | refine wo_tupT ?_ | refine wo_tupL ?_ | refine wo_intI ?_ | refine wo_intB ?_ | refine wo_strS ?_ | refine wo_inS ?_ | refine wo_ninS ?_) | ((with_reducible apply we_var); rfl) | ((with_reducible apply ws_frz); rfl) | ((with_reducible apply ws_app); rfl) | ((with_reducible apply ws_extend); rfl) | ((with_reducible apply ws_retA); rfl) | ((with_reducible apply ws_frz0); rfl) | ((with_reducible apply wo_isT); rfl; rfl) | (refine ⟨Nat.le_of_ble_eq_true rfl, ?_⟩) | (with_reducible refine ⟨_, rfl, ?_⟩) | (with_reducible refine wg_nm (Nat.le_of_ble_eq_true rfl) ?_) | (refine ⟨⟨Nat.le_of_ble_eq_true rfl, Nat.le_of_ble_eq_true rfl⟩, ?_⟩) | (with_reducible refine Or.inl ⟨_, rfl, ?_⟩) | (with_reducible refine Or.inr ⟨_, rfl, ?_⟩))
  refine ⟨fun z => ?_, fun z => ?_⟩
  · have z := of_decide_eq_false z
    repeat (first | with_reducible (first | refine ws_seq ?_ | refine nxt_nx ?_ | refine lp_nx ?_ | refine lp_ct ?_ | refine lp_bk ?_ | refine lp_rt ?_ | refine lp_rf ?_ | refine nxt_rt ?_ | refine nxt_rf ?_ | refine nxt_bk ?_ | refine nxt_ct ?_ | refine end_nx ?_ | refine end_rt ?_ | refine end_rf ?_ | refine ws_next ?_ | refine ws_brk ?_ | refine ws_cnt ?_ | refine ws_do ?_ | refine ws_ret ?_ | refine ws_retF ?_ | refine ws_retN ?_ | refine ws_set ?_ | refine ws_acc ?_ | refine ws_par ?_ | refine ws_asg ?_ | refine ws_for ?_ | refine ws_if ?_ | refine we_2 ?_ | refine we_1 ?_ | refine we_n ?_ | refine we_3 ?_ | refine we_c ?_ | refine wo_none ?_ | refine wo_some ?_ | refine wl_cons ?_ | refine wl_nil ?_ | refine we_V ?_ | refine we_own ?_ | refine we_tup ?_ | refine wl_lst ?_ | refine wt_of ?_ | refine wt_or ?_ | refine wt_and ?_ | refine wt_not ?_ | refine we_and ?_ | refine we_or ?_ | refine we_not ?_ | refine we_if ?_ | refine we_isN ?_ | refine we_notN ?_ | refine we_chain ?_ | refine wt_yes ?_ | refine wi_L ?_ | refine wi_T ?_ | refine wi_S ?_ | refine wi_R1 ?_ | refine wi_R2 ?_ | refine wi_R3 ?_ | refine wi_E ?_ | refine we_call ?_ | refine we_callF ?_ | refine we_bm ?_ | refine wg_sb ?_ | refine we_m1 ?_ | refine we_rev ?_ | refine wo_add ?_ | refine wo_sub ?_ | refine wo_neg ?_ | refine wo_cmp ?_ | refine wo_eqI ?_ | refine wo_neI ?_ | refine wo_eqS ?_ | refine wo_neS ?_ | refine wo_eqB ?_ | refine wo_neB ?_ | refine wo_lenL ?_ | refine wo_lenT ?_ | refine wo_lenC ?_ | refine wo_max ?_ | refine wo_min ?_ | refine wo_slL ?_ | refine wo_listC ?_ | refine wo_listL ?_ | refine wo_listT ?_ | refine wo_tupT ?_ | refine wo_tupL ?_ | refine wo_intI ?_ | refine wo_intB ?_ | refine wo_strS ?_ | refine wo_inS ?_ | refine wo_ninS ?_) | ((with_reducible apply we_var); rfl) | ((with_reducible apply ws_frz); rfl) | ((with_reducible apply ws_app); rfl) | ((with_reducible apply ws_extend); rfl) | ((with_reducible apply ws_retA); rfl) | ((with_reducible apply ws_frz0); rfl) | ((with_reducible apply wo_isT); rfl; rfl) | (refine ⟨Nat.le_of_ble_eq_true rfl, ?_⟩) | (with_reducible refine ⟨_, rfl, ?_⟩) | (with_reducible refine wg_nm (Nat.le_of_ble_eq_true rfl) ?_) | (refine ⟨⟨Nat.le_of_ble_eq_true rfl, Nat.le_of_ble_eq_true rfl⟩, ?_⟩) | (with_reducible refine Or.inl ⟨_, rfl, ?_⟩) | (with_reducible refine Or.inr ⟨_, rfl, ?_⟩))
    refine ⟨fun _ => ⟨fun _ => ?_, fun q => nomatch q⟩, fun q => nomatch q⟩
    repeat (first | with_reducible (first | refine ws_seq ?_ | refine nxt_nx ?_ | refine lp_nx ?_ | refine lp_ct ?_ | refine lp_bk ?_ | refine lp_rt ?_ | refine lp_rf ?_ | refine nxt_rt ?_ | refine nxt_rf ?_ | refine nxt_bk ?_ | refine nxt_ct ?_ | refine end_nx ?_ | refine end_rt ?_ | refine end_rf ?_ | refine ws_next ?_ | refine ws_brk ?_ | refine ws_cnt ?_ | refine ws_do ?_ | refine ws_ret ?_ | refine ws_retF ?_ | refine ws_retN ?_ | refine ws_set ?_ | refine ws_acc ?_ | refine ws_par ?_ | refine ws_asg ?_ | refine ws_for ?_ | refine ws_if ?_ | refine we_2 ?_ | refine we_1 ?_ | refine we_n ?_ | refine we_3 ?_ | refine we_c ?_ | refine wo_none ?_ | refine wo_some ?_ | refine wl_cons ?_ | refine wl_nil ?_ | refine we_V ?_ | refine we_own ?_ | refine we_tup ?_ | refine wl_lst ?_ | refine wt_of ?_ | refine wt_or ?_ | refine wt_and ?_ | refine wt_not ?_ | refine we_and ?_ | refine we_or ?_ | refine we_not ?_ | refine we_if ?_ | refine we_isN ?_ | refine we_notN ?_ | refine we_chain ?_ | refine wt_yes ?_ | refine wi_L ?_ | refine wi_T ?_ | refine wi_S ?_ | refine wi_R1 ?_ | refine wi_R2 ?_ | refine wi_R3 ?_ | refine wi_E ?_ | refine we_call ?_ | refine we_callF ?_ | refine we_bm ?_ | refine wg_sb ?_ | refine we_m1 ?_ | refine we_rev ?_ | refine wo_add ?_ | refine wo_sub ?_ | refine wo_neg ?_ | refine wo_cmp ?_ | refine wo_eqI ?_ | refine wo_neI ?_ | refine wo_eqS ?_ | refine wo_neS ?_ | refine wo_eqB ?_ | refine wo_neB ?_ | refine wo_lenL ?_ | refine wo_lenT ?_ | refine wo_lenC ?_ | refine wo_max ?_ | refine wo_min ?_ | refine wo_slL ?_ | refine wo_listC ?_ | refine wo_listL ?_ | refine wo_listT ?_ | refine wo_tupT ?_ | refine wo_tupL ?_ | refine wo_intI ?_ | refine wo_intB ?_ | refine wo_strS ?_ | refine wo_inS ?_ | refine wo_ninS ?_) | ((with_reducible apply we_var); rfl) | ((with_reducible apply ws_frz); rfl) | ((with_reducible apply ws_app); rfl) | ((with_reducible apply ws_extend); rfl) | ((with_reducible apply ws_retA); rfl) | ((with_reducible apply ws_frz0); rfl) | ((with_reducible apply wo_isT); rfl; rfl) | (refine ⟨Nat.le_of_ble_eq_true rfl, ?_⟩) | (with_reducible refine ⟨_, rfl, ?_⟩) | (with_reducible refine wg_nm (Nat.le_of_ble_eq_true rfl) ?_) | (refine ⟨⟨Nat.le_of_ble_eq_true rfl, Nat.le_of_ble_eq_true rfl⟩, ?_⟩) | (with_reducible refine Or.inl ⟨_, rfl, ?_⟩) | (with_reducible refine Or.inr ⟨_, rfl, ?_⟩))
    rw [bad (by omega)]
    exact ⟨rfl, rfl⟩
  have z1 := of_decide_eq_true z
  repeat (first | with_reducible (first | refine ws_seq ?_ | refine nxt_nx ?_ | refine lp_nx ?_ | refine lp_ct ?_ | refine lp_bk ?_ | refine lp_rt ?_ | refine lp_rf ?_ | refine nxt_rt ?_ | refine nxt_rf ?_ | refine nxt_bk ?_ | refine nxt_ct ?_ | refine end_nx ?_ | refine end_rt ?_ | refine end_rf ?_ | refine ws_next ?_ | refine ws_brk ?_ | refine ws_cnt ?_ | refine ws_do ?_ | refine ws_ret ?_ | refine ws_retF ?_ | refine ws_retN ?_ | refine ws_set ?_ | refine ws_acc ?_ | refine ws_par ?_ | refine ws_asg ?_ | refine ws_for ?_ | refine ws_if ?_ | refine we_2 ?_ | refine we_1 ?_ | refine we_n ?_ | refine we_3 ?_ | refine we_c ?_ | refine wo_none ?_ | refine wo_some ?_ | refine wl_cons ?_ | refine wl_nil ?_ | refine we_V ?_ | refine we_own ?_ | refine we_tup ?_ | refine wl_lst ?_ | refine wt_of ?_ | refine wt_or ?_ | refine wt_and ?_ | refine wt_not ?_ | refine we_and ?_ | refine we_or ?_ | refine we_not ?_ | refine we_if ?_ | refine we_isN ?_ | refine we_notN ?_ | refine we_chain ?_ | refine wt_yes ?_ | refine wi_L ?_ | refine wi_T ?_ | refine wi_S ?_ | refine wi_R1 ?_ | refine wi_R2 ?_ | refine wi_R3 ?_ | refine wi_E ?_ | refine we_call ?_ | refine we_callF ?_ | refine we_bm ?_ | refine wg_sb ?_ | refine we_m1 ?_ | refine we_rev ?_ | refine wo_add ?_ | refine wo_sub ?_ | refine wo_neg ?_ | refine wo_cmp ?_ | refine wo_eqI ?_ | refine wo_neI ?_ | refine wo_eqS ?_ | refine wo_neS ?_ | refine wo_eqB ?_ | refine wo_neB ?_ | refine wo_lenL ?_ | refine wo_lenT ?_ | refine wo_lenC ?_ | refine wo_max ?_ | refine wo_min ?_ | refine wo_slL ?_ | refine wo_listC ?_ | refine wo_listL ?_ | refine wo_listT ?_ | refine wo_tupT ?_ | refine wo_tupL ?_ | refine wo_intI ?_ | refine wo_intB ?_ | refine wo_strS ?_ | refine wo_inS ?_ | refine wo_ninS ?_) | ((with_reducible apply we_var); rfl) | ((with_reducible apply ws_frz); rfl) | ((with_reducible apply ws_app); rfl) | ((with_reducible apply ws_extend); rfl) | ((with_reducible apply ws_retA); rfl) | ((with_reducible apply ws_frz0); rfl) | ((with_reducible apply wo_isT); rfl; rfl) | (refine ⟨Nat.le_of_ble_eq_true rfl, ?_⟩) | (with_reducible refine ⟨_, rfl, ?_⟩) | (with_reducible refine wg_nm (Nat.le_of_ble_eq_true rfl) ?_) | (refine ⟨⟨Nat.le_of_ble_eq_true rfl, Nat.le_of_ble_eq_true rfl⟩, ?_⟩) | (with_reducible refine Or.inl ⟨_, rfl, ?_⟩) | (with_reducible refine Or.inr ⟨_, rfl, ?_⟩))
  refine ⟨fun z => ?_, fun z => ?_⟩
  · have z : decide ((w.length : Int) ≤ 6) = false := by simpa using z
    have z := of_decide_eq_false z
    refine ⟨fun _ => ?_, fun q => nomatch q⟩
    repeat (first | with_reducible (first | refine ws_seq ?_ | refine nxt_nx ?_ | refine lp_nx ?_ | refine lp_ct ?_ | refine lp_bk ?_ | refine lp_rt ?_ | refine lp_rf ?_ | refine nxt_rt ?_ | refine nxt_rf ?_ | refine nxt_bk ?_ | refine nxt_ct ?_ | refine end_nx ?_ | refine end_rt ?_ | refine end_rf ?_ | refine ws_next ?_ | refine ws_brk ?_ | refine ws_cnt ?_ | refine ws_do ?_ | refine ws_ret ?_ | refine ws_retF ?_ | refine ws_retN ?_ | refine ws_set ?_ | refine ws_acc ?_ | refine ws_par ?_ | refine ws_asg ?_ | refine ws_for ?_ | refine ws_if ?_ | refine we_2 ?_ | refine we_1 ?_ | refine we_n ?_ | refine we_3 ?_ | refine we_c ?_ | refine wo_none ?_ | refine wo_some ?_ | refine wl_cons ?_ | refine wl_nil ?_ | refine we_V ?_ | refine we_own ?_ | refine we_tup ?_ | refine wl_lst ?_ | refine wt_of ?_ | refine wt_or ?_ | refine wt_and ?_ | refine wt_not ?_ | refine we_and ?_ | refine we_or ?_ | refine we_not ?_ | refine we_if ?_ | refine we_isN ?_ | refine we_notN ?_ | refine we_chain ?_ | refine wt_yes ?_ | refine wi_L ?_ | refine wi_T ?_ | refine wi_S ?_ | refine wi_R1 ?_ | refine wi_R2 ?_ | refine wi_R3 ?_ | refine wi_E ?_ | refine we_call ?_ | refine we_callF ?_ | refine we_bm ?_ | refine wg_sb ?_ | refine we_m1 ?_ | refine we_rev ?_ | refine wo_add ?_ | refine wo_sub ?_ | refine wo_neg ?_ | refine wo_cmp ?_ | refine wo_eqI ?_ | refine wo_neI ?_ | refine wo_eqS ?_ | refine wo_neS ?_ | refine wo_eqB ?_ | refine wo_neB ?_ | refine wo_lenL ?_ | refine wo_lenT ?_ | refine wo_lenC ?_ | refine wo_max ?_ | refine wo_min ?_ | refine wo_slL ?_ | refine wo_listC ?_ | refine wo_listL ?_ | refine wo_listT ?_ | refine wo_tupT ?_ | refine wo_tupL ?_ | refine wo_intI ?_ | refine wo_intB ?_ | refine wo_strS ?_ | refine wo_inS ?_ | refine wo_ninS ?_) | ((with_reducible apply we_var); rfl) | ((with_reducible apply ws_frz); rfl) | ((with_reducible apply ws_app); rfl) | ((with_reducible apply ws_extend); rfl) | ((with_reducible apply ws_retA); rfl) | ((with_reducible apply ws_frz0); rfl) | ((with_reducible apply wo_isT); rfl; rfl) | (refine ⟨Nat.le_of_ble_eq_true rfl, ?_⟩) | (with_reducible refine ⟨_, rfl, ?_⟩) | (with_reducible refine wg_nm (Nat.le_of_ble_eq_true rfl) ?_) | (refine ⟨⟨Nat.le_of_ble_eq_true rfl, Nat.le_of_ble_eq_true rfl⟩, ?_⟩) | (with_reducible refine Or.inl ⟨_, rfl, ?_⟩) | (with_reducible refine Or.inr ⟨_, rfl, ?_⟩))
    rw [bad (by omega)]
    exact ⟨rfl, rfl⟩
  have z2 : decide ((w.length : Int) ≤ 6) = true := by simpa using z
  have z2 := of_decide_eq_true z2
  repeat (first | with_reducible (first | refine ws_seq ?_ | refine nxt_nx ?_ | refine lp_nx ?_ | refine lp_ct ?_ | refine lp_bk ?_ | refine lp_rt ?_ | refine lp_rf ?_ | refine nxt_rt ?_ | refine nxt_rf ?_ | refine nxt_bk ?_ | refine nxt_ct ?_ | refine end_nx ?_ | refine end_rt ?_ | refine end_rf ?_ | refine ws_next ?_ | refine ws_brk ?_ | refine ws_cnt ?_ | refine ws_do ?_ | refine ws_ret ?_ | refine ws_retF ?_ | refine ws_retN ?_ | refine ws_set ?_ | refine ws_acc ?_ | refine ws_par ?_ | refine ws_asg ?_ | refine ws_for ?_ | refine ws_if ?_ | refine we_2 ?_ | refine we_1 ?_ | refine we_n ?_ | refine we_3 ?_ | refine we_c ?_ | refine wo_none ?_ | refine wo_some ?_ | refine wl_cons ?_ | refine wl_nil ?_ | refine we_V ?_ | refine we_own ?_ | refine we_tup ?_ | refine wl_lst ?_ | refine wt_of ?_ | refine wt_or ?_ | refine wt_and ?_ | refine wt_not ?_ | refine we_and ?_ | refine we_or ?_ | refine we_not ?_ | refine we_if ?_ | refine we_isN ?_ | refine we_notN ?_ | refine we_chain ?_ | refine wt_yes ?_ | refine wi_L ?_ | refine wi_T ?_ | refine wi_S ?_ | refine wi_R1 ?_ | refine wi_R2 ?_ | refine wi_R3 ?_ | refine wi_E ?_ | refine we_call ?_ | refine we_callF ?_ | refine we_bm ?_ | refine wg_sb ?_ | refine we_m1 ?_ | refine we_rev ?_ | refine wo_add ?_ | refine wo_sub ?_ | refine wo_neg ?_ | refine wo_cmp ?_ | refine wo_eqI ?_ | refine wo_neI ?_ | refine wo_eqS ?_ | refine wo_neS ?_ | refine wo_eqB ?_ | refine wo_neB ?_ | refine wo_lenL ?_ | refine wo_lenT ?_ | refine wo_lenC ?_ | refine wo_max ?_ | refine wo_min ?_ | refine wo_slL ?_ | refine wo_listC ?_ | refine wo_listL ?_ | refine wo_listT ?_ | refine wo_tupT ?_ | refine wo_tupL ?_ | refine wo_intI ?_ | refine wo_intB ?_ | refine wo_strS ?_ | refine wo_inS ?_ | refine wo_ninS ?_) | ((with_reducible apply we_var); rfl) | ((with_reducible apply ws_frz); rfl) | ((with_reducible apply ws_app); rfl) | ((with_reducible apply ws_extend); rfl) | ((with_reducible apply ws_retA); rfl) | ((with_reducible apply ws_frz0); rfl) | ((with_reducible apply wo_isT); rfl; rfl) | (refine ⟨Nat.le_of_ble_eq_true rfl, ?_⟩) | (with_reducible refine ⟨_, rfl, ?_⟩) | (with_reducible refine wg_nm (Nat.le_of_ble_eq_true rfl) ?_) | (refine ⟨⟨Nat.le_of_ble_eq_true rfl, Nat.le_of_ble_eq_true rfl⟩, ?_⟩) | (with_reducible refine Or.inl ⟨_, rfl, ?_⟩) | (with_reducible refine Or.inr ⟨_, rfl, ?_⟩))
  refine wl_signs (A := dg) (fun c => rfl) (fun c => rfl) ?_
  repeat (first | with_reducible (first | refine ws_seq ?_ | refine nxt_nx ?_ | refine lp_nx ?_ | refine lp_ct ?_ | refine lp_bk ?_ | refine lp_rt ?_ | refine lp_rf ?_ | refine nxt_rt ?_ | refine nxt_rf ?_ | refine nxt_bk ?_ | refine nxt_ct ?_ | refine end_nx ?_ | refine end_rt ?_ | refine end_rf ?_ | refine ws_next ?_ | refine ws_brk ?_ | refine ws_cnt ?_ | refine ws_do ?_ | refine ws_ret ?_ | refine ws_retF ?_ | refine ws_retN ?_ | refine ws_set ?_ | refine ws_acc ?_ | refine ws_par ?_ | refine ws_asg ?_ | refine ws_for ?_ | refine ws_if ?_ | refine we_2 ?_ | refine we_1 ?_ | refine we_n ?_ | refine we_3 ?_ | refine we_c ?_ | refine wo_none ?_ | refine wo_some ?_ | refine wl_cons ?_ | refine wl_nil ?_ | refine we_V ?_ | refine we_own ?_ | refine we_tup ?_ | refine wl_lst ?_ | refine wt_of ?_ | refine wt_or ?_ | refine wt_and ?_ | refine wt_not ?_ | refine we_and ?_ | refine we_or ?_ | refine we_not ?_ | refine we_if ?_ | refine we_isN ?_ | refine we_notN ?_ | refine we_chain ?_ | refine wt_yes ?_ | refine wi_L ?_ | refine wi_T ?_ | refine wi_S ?_ | refine wi_R1 ?_ | refine wi_R2 ?_ | refine wi_R3 ?_ | refine wi_E ?_ | refine we_call ?_ | refine we_callF ?_ | refine we_bm ?_ | refine wg_sb ?_ | refine we_m1 ?_ | refine we_rev ?_ | refine wo_add ?_ | refine wo_sub ?_ | refine wo_neg ?_ | refine wo_cmp ?_ | refine wo_eqI ?_ | refine wo_neI ?_ | refine wo_eqS ?_ | refine wo_neS ?_ | refine wo_eqB ?_ | refine wo_neB ?_ | refine wo_lenL ?_ | refine wo_lenT ?_ | refine wo_lenC ?_ | refine wo_max ?_ | refine wo_min ?_ | refine wo_slL ?_ | refine wo_listC ?_ | refine wo_listL ?_ | refine wo_listT ?_ | refine wo_tupT ?_ | refine wo_tupL ?_ | refine wo_intI ?_ | refine wo_intB ?_ | refine wo_strS ?_ | refine wo_inS ?_ | refine wo_ninS ?_) | ((with_reducible apply we_var); rfl) | ((with_reducible apply ws_frz); rfl) | ((with_reducible apply ws_app); rfl) | ((with_reducible apply ws_extend); rfl) | ((with_reducible apply ws_retA); rfl) | ((with_reducible apply ws_frz0); rfl) | ((with_reducible apply wo_isT); rfl; rfl) | (refine ⟨Nat.le_of_ble_eq_true rfl, ?_⟩) | (with_reducible refine ⟨_, rfl, ?_⟩) | (with_reducible refine wg_nm (Nat.le_of_ble_eq_true rfl) ?_) | (refine ⟨⟨Nat.le_of_ble_eq_true rfl, Nat.le_of_ble_eq_true rfl⟩, ?_⟩) | (with_reducible refine Or.inl ⟨_, rfl, ?_⟩) | (with_reducible refine Or.inr ⟨_, rfl, ?_⟩))
  refine ⟨hl, fun c => ?_, ?_⟩
  · repeat (first | with_reducible (first | refine ws_seq ?_ | refine nxt_nx ?_ | refine lp_nx ?_ | refine lp_ct ?_ | refine lp_bk ?_ | refine lp_rt ?_ | refine lp_rf ?_ | refine nxt_rt ?_ | refine nxt_rf ?_ | refine nxt_bk ?_ | refine nxt_ct ?_ | refine end_nx ?_ | refine end_rt ?_ | refine end_rf ?_ | refine ws_next ?_ | refine ws_brk ?_ | refine ws_cnt ?_ | refine ws_do ?_ | refine ws_ret ?_ | refine ws_retF ?_ | refine ws_retN ?_ | refine ws_set ?_ | refine ws_acc ?_ | refine ws_par ?_ | refine ws_asg ?_ | refine ws_for ?_ | refine ws_if ?_ | refine we_2 ?_ | refine we_1 ?_ | refine we_n ?_ | refine we_3 ?_ | refine we_c ?_ | refine wo_none ?_ | refine wo_some ?_ | refine wl_cons ?_ | refine wl_nil ?_ | refine we_V ?_ | refine we_own ?_ | refine we_tup ?_ | refine wl_lst ?_ | refine wt_of ?_ | refine wt_or ?_ | refine wt_and ?_ | refine wt_not ?_ | refine we_and ?_ | refine we_or ?_ | refine we_not ?_ | refine we_if ?_ | refine we_isN ?_ | refine we_notN ?_ | refine we_chain ?_ | refine wt_yes ?_ | refine wi_L ?_ | refine wi_T ?_ | refine wi_S ?_ | refine wi_R1 ?_ | refine wi_R2 ?_ | refine wi_R3 ?_ | refine wi_E ?_ | refine we_call ?_ | refine we_callF ?_ | refine we_bm ?_ | refine wg_sb ?_ | refine we_m1 ?_ | refine we_rev ?_ | refine wo_add ?_ | refine wo_sub ?_ | refine wo_neg ?_ | refine wo_cmp ?_ | refine wo_eqI ?_ | refine wo_neI ?_ | refine wo_eqS ?_ | refine wo_neS ?_ | refine wo_eqB ?_ | refine wo_neB ?_ | refine wo_lenL ?_ | refine wo_lenT ?_ | refine wo_lenC ?_ | refine wo_max ?_ | refine wo_min ?_ | refine wo_slL ?_ | refine wo_listC ?_ | refine wo_listL ?_ | refine wo_listT ?_ | refine wo_tupT ?_ | refine wo_tupL ?_ | refine wo_intI ?_ | refine wo_intB ?_ | refine wo_strS ?_ | refine wo_inS ?_ | refine wo_ninS ?_) | ((with_reducible apply we_var); rfl) | ((with_reducible apply ws_frz); rfl) | ((with_reducible apply ws_app); rfl) | ((with_reducible apply ws_extend); rfl) | ((with_reducible apply ws_retA); rfl) | ((with_reducible apply ws_frz0); rfl) | ((with_reducible apply wo_isT); rfl; rfl) | (refine ⟨Nat.le_of_ble_eq_true rfl, ?_⟩) | (with_reducible refine ⟨_, rfl, ?_⟩) | (with_reducible refine wg_nm (Nat.le_of_ble_eq_true rfl) ?_) | (refine ⟨⟨Nat.le_of_ble_eq_true rfl, Nat.le_of_ble_eq_true rfl⟩, ?_⟩) | (with_reducible refine Or.inl ⟨_, rfl, ?_⟩) | (with_reducible refine Or.inr ⟨_, rfl, ?_⟩))
    exact ⟨rfl, rfl⟩
  repeat (first | with_reducible (first | refine ws_seq ?_ | refine nxt_nx ?_ | refine lp_nx ?_ | refine lp_ct ?_ | refine lp_bk ?_ | refine lp_rt ?_ | refine lp_rf ?_ | refine nxt_rt ?_ | refine nxt_rf ?_ | refine nxt_bk ?_ | refine nxt_ct ?_ | refine end_nx ?_ | refine end_rt ?_ | refine end_rf ?_ | refine ws_next ?_ | refine ws_brk ?_ | refine ws_cnt ?_ | refine ws_do ?_ | refine ws_ret ?_ | refine ws_retF ?_ | refine ws_retN ?_ | refine ws_set ?_ | refine ws_acc ?_ | refine ws_par ?_ | refine ws_asg ?_ | refine ws_for ?_ | refine ws_if ?_ | refine we_2 ?_ | refine we_1 ?_ | refine we_n ?_ | refine we_3 ?_ | refine we_c ?_ | refine wo_none ?_ | refine wo_some ?_ | refine wl_cons ?_ | refine wl_nil ?_ | refine we_V ?_ | refine we_own ?_ | refine we_tup ?_ | refine wl_lst ?_ | refine wt_of ?_ | refine wt_or ?_ | refine wt_and ?_ | refine wt_not ?_ | refine we_and ?_ | refine we_or ?_ | refine we_not ?_ | refine we_if ?_ | refine we_isN ?_ | refine we_notN ?_ | refine we_chain ?_ | refine wt_yes ?_ | refine wi_L ?_ | refine wi_T ?_ | refine wi_S ?_ | refine wi_R1 ?_ | refine wi_R2 ?_ | refine wi_R3 ?_ | refine wi_E ?_ | refine we_call ?_ | refine we_callF ?_ | refine we_bm ?_ | refine wg_sb ?_ | refine we_m1 ?_ | refine we_rev ?_ | refine wo_add ?_ | refine wo_sub ?_ | refine wo_neg ?_ | refine wo_cmp ?_ | refine wo_eqI ?_ | refine wo_neI ?_ | refine wo_eqS ?_ | refine wo_neS ?_ | refine wo_eqB ?_ | refine wo_neB ?_ | refine wo_lenL ?_ | refine wo_lenT ?_ | refine wo_lenC ?_ | refine wo_max ?_ | refine wo_min ?_ | refine wo_slL ?_ | refine wo_listC ?_ | refine wo_listL ?_ | refine wo_listT ?_ | refine wo_tupT ?_ | refine wo_tupL ?_ | refine wo_intI ?_ | refine wo_intB ?_ | refine wo_strS ?_ | refine wo_inS ?_ | refine wo_ninS ?_) | ((with_reducible apply we_var); rfl) | ((with_reducible apply ws_frz); rfl) | ((with_reducible apply ws_app); rfl) | ((with_reducible apply ws_extend); rfl) | ((with_reducible apply ws_retA); rfl) | ((with_reducible apply ws_frz0); rfl) | ((with_reducible apply wo_isT); rfl; rfl) | (refine ⟨Nat.le_of_ble_eq_true rfl, ?_⟩) | (with_reducible refine ⟨_, rfl, ?_⟩) | (with_reducible refine wg_nm (Nat.le_of_ble_eq_true rfl) ?_) | (refine ⟨⟨Nat.le_of_ble_eq_true rfl, Nat.le_of_ble_eq_true rfl⟩, ?_⟩) | (with_reducible refine Or.inl ⟨_, rfl, ?_⟩) | (with_reducible refine Or.inr ⟨_, rfl, ?_⟩))
  refine wo_neNil (okS_filter hw) ?_
  rw [filt_empty]
  repeat (first | with_reducible (first | refine ws_seq ?_ | refine nxt_nx ?_ | refine lp_nx ?_ | refine lp_ct ?_ | refine lp_bk ?_ | refine lp_rt ?_ | refine lp_rf ?_ | refine nxt_rt ?_ | refine nxt_rf ?_ | refine nxt_bk ?_ | refine nxt_ct ?_ | refine end_nx ?_ | refine end_rt ?_ | refine end_rf ?_ | refine ws_next ?_ | refine ws_brk ?_ | refine ws_cnt ?_ | refine ws_do ?_ | refine ws_ret ?_ | refine ws_retF ?_ | refine ws_retN ?_ | refine ws_set ?_ | refine ws_acc ?_ | refine ws_par ?_ | refine ws_asg ?_ | refine ws_for ?_ | refine ws_if ?_ | refine we_2 ?_ | refine we_1 ?_ | refine we_n ?_ | refine we_3 ?_ | refine we_c ?_ | refine wo_none ?_ | refine wo_some ?_ | refine wl_cons ?_ | refine wl_nil ?_ | refine we_V ?_ | refine we_own ?_ | refine we_tup ?_ | refine wl_lst ?_ | refine wt_of ?_ | refine wt_or ?_ | refine wt_and ?_ | refine wt_not ?_ | refine we_and ?_ | refine we_or ?_ | refine we_not ?_ | refine we_if ?_ | refine we_isN ?_ | refine we_notN ?_ | refine we_chain ?_ | refine wt_yes ?_ | refine wi_L ?_ | refine wi_T ?_ | refine wi_S ?_ | refine wi_R1 ?_ | refine wi_R2 ?_ | refine wi_R3 ?_ | refine wi_E ?_ | refine we_call ?_ | refine we_callF ?_ | refine we_bm ?_ | refine wg_sb ?_ | refine we_m1 ?_ | refine we_rev ?_ | refine wo_add ?_ | refine wo_sub ?_ | refine wo_neg ?_ | refine wo_cmp ?_ | refine wo_eqI ?_ | refine wo_neI ?_ | refine wo_eqS ?_ | refine wo_neS ?_ | refine wo_eqB ?_ | refine wo_neB ?_ | refine wo_lenL ?_ | refine wo_lenT ?_ | refine wo_lenC ?_ | refine wo_max ?_ | refine wo_min ?_ | refine wo_slL ?_ | refine wo_listC ?_ | refine wo_listL ?_ | refine wo_listT ?_ | refine wo_tupT ?_ | refine wo_tupL ?_ | refine wo_intI ?_ | refine wo_intB ?_ | refine wo_strS ?_ | refine wo_inS ?_ | refine wo_ninS ?_) | ((with_reducible apply we_var); rfl) | ((with_reducible apply ws_frz); rfl) | ((with_reducible apply ws_app); rfl) | ((with_reducible apply ws_extend); rfl) | ((with_reducible apply ws_retA); rfl) | ((with_reducible apply ws_frz0); rfl) | ((with_reducible apply wo_isT); rfl; rfl) | (refine ⟨Nat.le_of_ble_eq_true rfl, ?_⟩) | (with_reducible refine ⟨_, rfl, ?_⟩) | (with_reducible refine wg_nm (Nat.le_of_ble_eq_true rfl) ?_) | (refine ⟨⟨Nat.le_of_ble_eq_true rfl, Nat.le_of_ble_eq_true rfl⟩, ?_⟩) | (with_reducible refine Or.inl ⟨_, rfl, ?_⟩) | (with_reducible refine Or.inr ⟨_, rfl, ?_⟩))
  refine ⟨fun z => ?_, fun z => ?_⟩
  · have z : ¬ ∀ c ∈ w, c ∈ dg := fun q => by
      rw [decide_eq_true q] at z
      cases z
    repeat (first | with_reducible (first | refine ws_seq ?_ | refine nxt_nx ?_ | refine lp_nx ?_ | refine lp_ct ?_ | refine lp_bk ?_ | refine lp_rt ?_ | refine lp_rf ?_ | refine nxt_rt ?_ | refine nxt_rf ?_ | refine nxt_bk ?_ | refine nxt_ct ?_ | refine end_nx ?_ | refine end_rt ?_ | refine end_rf ?_ | refine ws_next ?_ | refine ws_brk ?_ | refine ws_cnt ?_ | refine ws_do ?_ | refine ws_ret ?_ | refine ws_retF ?_ | refine ws_retN ?_ | refine ws_set ?_ | refine ws_acc ?_ | refine ws_par ?_ | refine ws_asg ?_ | refine ws_for ?_ | refine ws_if ?_ | refine we_2 ?_ | refine we_1 ?_ | refine we_n ?_ | refine we_3 ?_ | refine we_c ?_ | refine wo_none ?_ | refine wo_some ?_ | refine wl_cons ?_ | refine wl_nil ?_ | refine we_V ?_ | refine we_own ?_ | refine we_tup ?_ | refine wl_lst ?_ | refine wt_of ?_ | refine wt_or ?_ | refine wt_and ?_ | refine wt_not ?_ | refine we_and ?_ | refine we_or ?_ | refine we_not ?_ | refine we_if ?_ | refine we_isN ?_ | refine we_notN ?_ | refine we_chain ?_ | refine wt_yes ?_ | refine wi_L ?_ | refine wi_T ?_ | refine wi_S ?_ | refine wi_R1 ?_ | refine wi_R2 ?_ | refine wi_R3 ?_ | refine wi_E ?_ | refine we_call ?_ | refine we_callF ?_ | refine we_bm ?_ | refine wg_sb ?_ | refine we_m1 ?_ | refine we_rev ?_ | refine wo_add ?_ | refine wo_sub ?_ | refine wo_neg ?_ | refine wo_cmp ?_ | refine wo_eqI ?_ | refine wo_neI ?_ | refine wo_eqS ?_ | refine wo_neS ?_ | refine wo_eqB ?_ | refine wo_neB ?_ | refine wo_lenL ?_ | refine wo_lenT ?_ | refine wo_lenC ?_ | refine wo_max ?_ | refine wo_min ?_ | refine wo_slL ?_ | refine wo_listC ?_ | refine wo_listL ?_ | refine wo_listT ?_ | refine wo_tupT ?_ | refine wo_tupL ?_ | refine wo_intI ?_ | refine wo_intB ?_ | refine wo_strS ?_ | refine wo_inS ?_ | refine wo_ninS ?_) | ((with_reducible apply we_var); rfl) | ((with_reducible apply ws_frz); rfl) | ((with_reducible apply ws_app); rfl) | ((with_reducible apply ws_extend); rfl) | ((with_reducible apply ws_retA); rfl) | ((with_reducible apply ws_frz0); rfl) | ((with_reducible apply wo_isT); rfl; rfl) | (refine ⟨Nat.le_of_ble_eq_true rfl, ?_⟩) | (with_reducible refine ⟨_, rfl, ?_⟩) | (with_reducible refine wg_nm (Nat.le_of_ble_eq_true rfl) ?_) | (refine ⟨⟨Nat.le_of_ble_eq_true rfl, Nat.le_of_ble_eq_true rfl⟩, ?_⟩) | (with_reducible refine Or.inl ⟨_, rfl, ?_⟩) | (with_reducible refine Or.inr ⟨_, rfl, ?_⟩))
    rw [bad fun q => z q.2.1]
    exact ⟨rfl, rfl⟩
  have z3 : ∀ c ∈ w, c ∈ dg := by
    by_cases q : ∀ c ∈ w, c ∈ dg
    · exact q
    · rw [decide_eq_false q] at z
      cases z
  repeat (first | with_reducible (first | refine ws_seq ?_ | refine nxt_nx ?_ | refine lp_nx ?_ | refine lp_ct ?_ | refine lp_bk ?_ | refine lp_rt ?_ | refine lp_rf ?_ | refine nxt_rt ?_ | refine nxt_rf ?_ | refine nxt_bk ?_ | refine nxt_ct ?_ | refine end_nx ?_ | refine end_rt ?_ | refine end_rf ?_ | refine ws_next ?_ | refine ws_brk ?_ | refine ws_cnt ?_ | refine ws_do ?_ | refine ws_ret ?_ | refine ws_retF ?_ | refine ws_retN ?_ | refine ws_set ?_ | refine ws_acc ?_ | refine ws_par ?_ | refine ws_asg ?_ | refine ws_for ?_ | refine ws_if ?_ | refine we_2 ?_ | refine we_1 ?_ | refine we_n ?_ | refine we_3 ?_ | refine we_c ?_ | refine wo_none ?_ | refine wo_some ?_ | refine wl_cons ?_ | refine wl_nil ?_ | refine we_V ?_ | refine we_own ?_ | refine we_tup ?_ | refine wl_lst ?_ | refine wt_of ?_ | refine wt_or ?_ | refine wt_and ?_ | refine wt_not ?_ | refine we_and ?_ | refine we_or ?_ | refine we_not ?_ | refine we_if ?_ | refine we_isN ?_ | refine we_notN ?_ | refine we_chain ?_ | refine wt_yes ?_ | refine wi_L ?_ | refine wi_T ?_ | refine wi_S ?_ | refine wi_R1 ?_ | refine wi_R2 ?_ | refine wi_R3 ?_ | refine wi_E ?_ | refine we_call ?_ | refine we_callF ?_ | refine we_bm ?_ | refine wg_sb ?_ | refine we_m1 ?_ | refine we_rev ?_ | refine wo_add ?_ | refine wo_sub ?_ | refine wo_neg ?_ | refine wo_cmp ?_ | refine wo_eqI ?_ | refine wo_neI ?_ | refine wo_eqS ?_ | refine wo_neS ?_ | refine wo_eqB ?_ | refine wo_neB ?_ | refine wo_lenL ?_ | refine wo_lenT ?_ | refine wo_lenC ?_ | refine wo_max ?_ | refine wo_min ?_ | refine wo_slL ?_ | refine wo_listC ?_ | refine wo_listL ?_ | refine wo_listT ?_ | refine wo_tupT ?_ | refine wo_tupL ?_ | refine wo_intI ?_ | refine wo_intB ?_ | refine wo_strS ?_ | refine wo_inS ?_ | refine wo_ninS ?_) | ((with_reducible apply we_var); rfl) | ((with_reducible apply ws_frz); rfl) | ((with_reducible apply ws_app); rfl) | ((with_reducible apply ws_extend); rfl) | ((with_reducible apply ws_retA); rfl) | ((with_reducible apply ws_frz0); rfl) | ((with_reducible apply wo_isT); rfl; rfl) | (refine ⟨Nat.le_of_ble_eq_true rfl, ?_⟩) | (with_reducible refine ⟨_, rfl, ?_⟩) | (with_reducible refine wg_nm (Nat.le_of_ble_eq_true rfl) ?_) | (refine ⟨⟨Nat.le_of_ble_eq_true rfl, Nat.le_of_ble_eq_true rfl⟩, ?_⟩) | (with_reducible refine Or.inl ⟨_, rfl, ?_⟩) | (with_reducible refine Or.inr ⟨_, rfl, ?_⟩))
  cases w with
  | nil => simp at z1
  | cons x w =>
    refine wo_ixS (c := x) hl (by decide) rfl ?_
    repeat (first | with_reducible (first | refine ws_seq ?_ | refine nxt_nx ?_ | refine lp_nx ?_ | refine lp_ct ?_ | refine lp_bk ?_ | refine lp_rt ?_ | refine lp_rf ?_ | refine nxt_rt ?_ | refine nxt_rf ?_ | refine nxt_bk ?_ | refine nxt_ct ?_ | refine end_nx ?_ | refine end_rt ?_ | refine end_rf ?_ | refine ws_next ?_ | refine ws_brk ?_ | refine ws_cnt ?_ | refine ws_do ?_ | refine ws_ret ?_ | refine ws_retF ?_ | refine ws_retN ?_ | refine ws_set ?_ | refine ws_acc ?_ | refine ws_par ?_ | refine ws_asg ?_ | refine ws_for ?_ | refine ws_if ?_ | refine we_2 ?_ | refine we_1 ?_ | refine we_n ?_ | refine we_3 ?_ | refine we_c ?_ | refine wo_none ?_ | refine wo_some ?_ | refine wl_cons ?_ | refine wl_nil ?_ | refine we_V ?_ | refine we_own ?_ | refine we_tup ?_ | refine wl_lst ?_ | refine wt_of ?_ | refine wt_or ?_ | refine wt_and ?_ | refine wt_not ?_ | refine we_and ?_ | refine we_or ?_ | refine we_not ?_ | refine we_if ?_ | refine we_isN ?_ | refine we_notN ?_ | refine we_chain ?_ | refine wt_yes ?_ | refine wi_L ?_ | refine wi_T ?_ | refine wi_S ?_ | refine wi_R1 ?_ | refine wi_R2 ?_ | refine wi_R3 ?_ | refine wi_E ?_ | refine we_call ?_ | refine we_callF ?_ | refine we_bm ?_ | refine wg_sb ?_ | refine we_m1 ?_ | refine we_rev ?_ | refine wo_add ?_ | refine wo_sub ?_ | refine wo_neg ?_ | refine wo_cmp ?_ | refine wo_eqI ?_ | refine wo_neI ?_ | refine wo_eqS ?_ | refine wo_neS ?_ | refine wo_eqB ?_ | refine wo_neB ?_ | refine wo_lenL ?_ | refine wo_lenT ?_ | refine wo_lenC ?_ | refine wo_max ?_ | refine wo_min ?_ | refine wo_slL ?_ | refine wo_listC ?_ | refine wo_listL ?_ | refine wo_listT ?_ | refine wo_tupT ?_ | refine wo_tupL ?_ | refine wo_intI ?_ | refine wo_intB ?_ | refine wo_strS ?_ | refine wo_inS ?_ | refine wo_ninS ?_) | ((with_reducible apply we_var); rfl) | ((with_reducible apply ws_frz); rfl) | ((with_reducible apply ws_app); rfl) | ((with_reducible apply ws_extend); rfl) | ((with_reducible apply ws_retA); rfl) | ((with_reducible apply ws_frz0); rfl) | ((with_reducible apply wo_isT); rfl; rfl) | (refine ⟨Nat.le_of_ble_eq_true rfl, ?_⟩) | (with_reducible refine ⟨_, rfl, ?_⟩) | (with_reducible refine wg_nm (Nat.le_of_ble_eq_true rfl) ?_) | (refine ⟨⟨Nat.le_of_ble_eq_true rfl, Nat.le_of_ble_eq_true rfl⟩, ?_⟩) | (with_reducible refine Or.inl ⟨_, rfl, ?_⟩) | (with_reducible refine Or.inr ⟨_, rfl, ?_⟩))
    have good : (x ≠ 48 ∨ x :: w = [48]) → W (fIntS [.str (x :: w)] S) fun d S1 => Out.v d = .v (numD (numV (x :: w))) ∧ S1 = S := fun q => by
      refine wo_intS ⟨?_, by simp, by omega⟩ ?_
      · unfold allDig
        rw [List.all_eq_true]
        exact fun c hc => decide_eq_true (dg_iff.mp (z3 c hc))
      · unfold numV
        rw [if_pos ⟨⟨by omega, by omega⟩, z3, by simpa using q⟩]
        exact ⟨rfl, rfl⟩
    refine ⟨fun q => ?_, fun q => ?_⟩
    · refine ⟨fun _ => ?_, fun z => nomatch z⟩
      repeat (first | with_reducible (first | refine ws_seq ?_ | refine nxt_nx ?_ | refine lp_nx ?_ | refine lp_ct ?_ | refine lp_bk ?_ | refine lp_rt ?_ | refine lp_rf ?_ | refine nxt_rt ?_ | refine nxt_rf ?_ | refine nxt_bk ?_ | refine nxt_ct ?_ | refine end_nx ?_ | refine end_rt ?_ | refine end_rf ?_ | refine ws_next ?_ | refine ws_brk ?_ | refine ws_cnt ?_ | refine ws_do ?_ | refine ws_ret ?_ | refine ws_retF ?_ | refine ws_retN ?_ | refine ws_set ?_ | refine ws_acc ?_ | refine ws_par ?_ | refine ws_asg ?_ | refine ws_for ?_ | refine ws_if ?_ | refine we_2 ?_ | refine we_1 ?_ | refine we_n ?_ | refine we_3 ?_ | refine we_c ?_ | refine wo_none ?_ | refine wo_some ?_ | refine wl_cons ?_ | refine wl_nil ?_ | refine we_V ?_ | refine we_own ?_ | refine we_tup ?_ | refine wl_lst ?_ | refine wt_of ?_ | refine wt_or ?_ | refine wt_and ?_ | refine wt_not ?_ | refine we_and ?_ | refine we_or ?_ | refine we_not ?_ | refine we_if ?_ | refine we_isN ?_ | refine we_notN ?_ | refine we_chain ?_ | refine wt_yes ?_ | refine wi_L ?_ | refine wi_T ?_ | refine wi_S ?_ | refine wi_R1 ?_ | refine wi_R2 ?_ | refine wi_R3 ?_ | refine wi_E ?_ | refine we_call ?_ | refine we_callF ?_ | refine we_bm ?_ | refine wg_sb ?_ | refine we_m1 ?_ | refine we_rev ?_ | refine wo_add ?_ | refine wo_sub ?_ | refine wo_neg ?_ | refine wo_cmp ?_ | refine wo_eqI ?_ | refine wo_neI ?_ | refine wo_eqS ?_ | refine wo_neS ?_ | refine wo_eqB ?_ | refine wo_neB ?_ | refine wo_lenL ?_ | refine wo_lenT ?_ | refine wo_lenC ?_ | refine wo_max ?_ | refine wo_min ?_ | refine wo_slL ?_ | refine wo_listC ?_ | refine wo_listL ?_ | refine wo_listT ?_ | refine wo_tupT ?_ | refine wo_tupL ?_ | refine wo_intI ?_ | refine wo_intB ?_ | refine wo_strS ?_ | refine wo_inS ?_ | refine wo_ninS ?_) | ((with_reducible apply we_var); rfl) | ((with_reducible apply ws_frz); rfl) | ((with_reducible apply ws_app); rfl) | ((with_reducible apply ws_extend); rfl) | ((with_reducible apply ws_retA); rfl) | ((with_reducible apply ws_frz0); rfl) | ((with_reducible apply wo_isT); rfl; rfl) | (refine ⟨Nat.le_of_ble_eq_true rfl, ?_⟩) | (with_reducible refine ⟨_, rfl, ?_⟩) | (with_reducible refine wg_nm (Nat.le_of_ble_eq_true rfl) ?_) | (refine ⟨⟨Nat.le_of_ble_eq_true rfl, Nat.le_of_ble_eq_true rfl⟩, ?_⟩) | (with_reducible refine Or.inl ⟨_, rfl, ?_⟩) | (with_reducible refine Or.inr ⟨_, rfl, ?_⟩))
      refine (good (.inl ?_)).mono fun d S1 h => ?_
      · intro e
        subst e
        simp at q
      repeat (first | with_reducible (first | refine ws_seq ?_ | refine nxt_nx ?_ | refine lp_nx ?_ | refine lp_ct ?_ | refine lp_bk ?_ | refine lp_rt ?_ | refine lp_rf ?_ | refine nxt_rt ?_ | refine nxt_rf ?_ | refine nxt_bk ?_ | refine nxt_ct ?_ | refine end_nx ?_ | refine end_rt ?_ | refine end_rf ?_ | refine ws_next ?_ | refine ws_brk ?_ | refine ws_cnt ?_ | refine ws_do ?_ | refine ws_ret ?_ | refine ws_retF ?_ | refine ws_retN ?_ | refine ws_set ?_ | refine ws_acc ?_ | refine ws_par ?_ | refine ws_asg ?_ | refine ws_for ?_ | refine ws_if ?_ | refine we_2 ?_ | refine we_1 ?_ | refine we_n ?_ | refine we_3 ?_ | refine we_c ?_ | refine wo_none ?_ | refine wo_some ?_ | refine wl_cons ?_ | refine wl_nil ?_ | refine we_V ?_ | refine we_own ?_ | refine we_tup ?_ | refine wl_lst ?_ | refine wt_of ?_ | refine wt_or ?_ | refine wt_and ?_ | refine wt_not ?_ | refine we_and ?_ | refine we_or ?_ | refine we_not ?_ | refine we_if ?_ | refine we_isN ?_ | refine we_notN ?_ | refine we_chain ?_ | refine wt_yes ?_ | refine wi_L ?_ | refine wi_T ?_ | refine wi_S ?_ | refine wi_R1 ?_ | refine wi_R2 ?_ | refine wi_R3 ?_ | refine wi_E ?_ | refine we_call ?_ | refine we_callF ?_ | refine we_bm ?_ | refine wg_sb ?_ | refine we_m1 ?_ | refine we_rev ?_ | refine wo_add ?_ | refine wo_sub ?_ | refine wo_neg ?_ | refine wo_cmp ?_ | refine wo_eqI ?_ | refine wo_neI ?_ | refine wo_eqS ?_ | refine wo_neS ?_ | refine wo_eqB ?_ | refine wo_neB ?_ | refine wo_lenL ?_ | refine wo_lenT ?_ | refine wo_lenC ?_ | refine wo_max ?_ | refine wo_min ?_ | refine wo_slL ?_ | refine wo_listC ?_ | refine wo_listL ?_ | refine wo_listT ?_ | refine wo_tupT ?_ | refine wo_tupL ?_ | refine wo_intI ?_ | refine wo_intB ?_ | refine wo_strS ?_ | refine wo_inS ?_ | refine wo_ninS ?_) | ((with_reducible apply we_var); rfl) | ((with_reducible apply ws_frz); rfl) | ((with_reducible apply ws_app); rfl) | ((with_reducible apply ws_extend); rfl) | ((with_reducible apply ws_retA); rfl) | ((with_reducible apply ws_frz0); rfl) | ((with_reducible apply wo_isT); rfl; rfl) | (refine ⟨Nat.le_of_ble_eq_true rfl, ?_⟩) | (with_reducible refine ⟨_, rfl, ?_⟩) | (with_reducible refine wg_nm (Nat.le_of_ble_eq_true rfl) ?_) | (refine ⟨⟨Nat.le_of_ble_eq_true rfl, Nat.le_of_ble_eq_true rfl⟩, ?_⟩) | (with_reducible refine Or.inl ⟨_, rfl, ?_⟩) | (with_reducible refine Or.inr ⟨_, rfl, ?_⟩))
      exact h
    · repeat (first | with_reducible (first | refine ws_seq ?_ | refine nxt_nx ?_ | refine lp_nx ?_ | refine lp_ct ?_ | refine lp_bk ?_ | refine lp_rt ?_ | refine lp_rf ?_ | refine nxt_rt ?_ | refine nxt_rf ?_ | refine nxt_bk ?_ | refine nxt_ct ?_ | refine end_nx ?_ | refine end_rt ?_ | refine end_rf ?_ | refine ws_next ?_ | refine ws_brk ?_ | refine ws_cnt ?_ | refine ws_do ?_ | refine ws_ret ?_ | refine ws_retF ?_ | refine ws_retN ?_ | refine ws_set ?_ | refine ws_acc ?_ | refine ws_par ?_ | refine ws_asg ?_ | refine ws_for ?_ | refine ws_if ?_ | refine we_2 ?_ | refine we_1 ?_ | refine we_n ?_ | refine we_3 ?_ | refine we_c ?_ | refine wo_none ?_ | refine wo_some ?_ | refine wl_cons ?_ | refine wl_nil ?_ | refine we_V ?_ | refine we_own ?_ | refine we_tup ?_ | refine wl_lst ?_ | refine wt_of ?_ | refine wt_or ?_ | refine wt_and ?_ | refine wt_not ?_ | refine we_and ?_ | refine we_or ?_ | refine we_not ?_ | refine we_if ?_ | refine we_isN ?_ | refine we_notN ?_ | refine we_chain ?_ | refine wt_yes ?_ | refine wi_L ?_ | refine wi_T ?_ | refine wi_S ?_ | refine wi_R1 ?_ | refine wi_R2 ?_ | refine wi_R3 ?_ | refine wi_E ?_ | refine we_call ?_ | refine we_callF ?_ | refine we_bm ?_ | refine wg_sb ?_ | refine we_m1 ?_ | refine we_rev ?_ | refine wo_add ?_ | refine wo_sub ?_ | refine wo_neg ?_ | refine wo_cmp ?_ | refine wo_eqI ?_ | refine wo_neI ?_ | refine wo_eqS ?_ | refine wo_neS ?_ | refine wo_eqB ?_ | refine wo_neB ?_ | refine wo_lenL ?_ | refine wo_lenT ?_ | refine wo_lenC ?_ | refine wo_max ?_ | refine wo_min ?_ | refine wo_slL ?_ | refine wo_listC ?_ | refine wo_listL ?_ | refine wo_listT ?_ | refine wo_tupT ?_ | refine wo_tupL ?_ | refine wo_intI ?_ | refine wo_intB ?_ | refine wo_strS ?_ | refine wo_inS ?_ | refine wo_ninS ?_) | ((with_reducible apply we_var); rfl) | ((with_reducible apply ws_frz); rfl) | ((with_reducible apply ws_app); rfl) | ((with_reducible apply ws_extend); rfl) | ((with_reducible apply ws_retA); rfl) | ((with_reducible apply ws_frz0); rfl) | ((with_reducible apply wo_isT); rfl; rfl) | (refine ⟨Nat.le_of_ble_eq_true rfl, ?_⟩) | (with_reducible refine ⟨_, rfl, ?_⟩) | (with_reducible refine wg_nm (Nat.le_of_ble_eq_true rfl) ?_) | (refine ⟨⟨Nat.le_of_ble_eq_true rfl, Nat.le_of_ble_eq_true rfl⟩, ?_⟩) | (with_reducible refine Or.inl ⟨_, rfl, ?_⟩) | (with_reducible refine Or.inr ⟨_, rfl, ?_⟩))
      refine ⟨fun r => ?_, fun r => ?_⟩
      · repeat (first | with_reducible (first | refine ws_seq ?_ | refine nxt_nx ?_ | refine lp_nx ?_ | refine lp_ct ?_ | refine lp_bk ?_ | refine lp_rt ?_ | refine lp_rf ?_ | refine nxt_rt ?_ | refine nxt_rf ?_ | refine nxt_bk ?_ | refine nxt_ct ?_ | refine end_nx ?_ | refine end_rt ?_ | refine end_rf ?_ | refine ws_next ?_ | refine ws_brk ?_ | refine ws_cnt ?_ | refine ws_do ?_ | refine ws_ret ?_ | refine ws_retF ?_ | refine ws_retN ?_ | refine ws_set ?_ | refine ws_acc ?_ | refine ws_par ?_ | refine ws_asg ?_ | refine ws_for ?_ | refine ws_if ?_ | refine we_2 ?_ | refine we_1 ?_ | refine we_n ?_ | refine we_3 ?_ | refine we_c ?_ | refine wo_none ?_ | refine wo_some ?_ | refine wl_cons ?_ | refine wl_nil ?_ | refine we_V ?_ | refine we_own ?_ | refine we_tup ?_ | refine wl_lst ?_ | refine wt_of ?_ | refine wt_or ?_ | refine wt_and ?_ | refine wt_not ?_ | refine we_and ?_ | refine we_or ?_ | refine we_not ?_ | refine we_if ?_ | refine we_isN ?_ | refine we_notN ?_ | refine we_chain ?_ | refine wt_yes ?_ | refine wi_L ?_ | refine wi_T ?_ | refine wi_S ?_ | refine wi_R1 ?_ | refine wi_R2 ?_ | refine wi_R3 ?_ | refine wi_E ?_ | refine we_call ?_ | refine we_callF ?_ | refine we_bm ?_ | refine wg_sb ?_ | refine we_m1 ?_ | refine we_rev ?_ | refine wo_add ?_ | refine wo_sub ?_ | refine wo_neg ?_ | refine wo_cmp ?_ | refine wo_eqI ?_ | refine wo_neI ?_ | refine wo_eqS ?_ | refine wo_neS ?_ | refine wo_eqB ?_ | refine wo_neB ?_ | refine wo_lenL ?_ | refine wo_lenT ?_ | refine wo_lenC ?_ | refine wo_max ?_ | refine wo_min ?_ | refine wo_slL ?_ | refine wo_listC ?_ | refine wo_listL ?_ | refine wo_listT ?_ | refine wo_tupT ?_ | refine wo_tupL ?_ | refine wo_intI ?_ | refine wo_intB ?_ | refine wo_strS ?_ | refine wo_inS ?_ | refine wo_ninS ?_) | ((with_reducible apply we_var); rfl) | ((with_reducible apply ws_frz); rfl) | ((with_reducible apply ws_app); rfl) | ((with_reducible apply ws_extend); rfl) | ((with_reducible apply ws_retA); rfl) | ((with_reducible apply ws_frz0); rfl) | ((with_reducible apply wo_isT); rfl; rfl) | (refine ⟨Nat.le_of_ble_eq_true rfl, ?_⟩) | (with_reducible refine ⟨_, rfl, ?_⟩) | (with_reducible refine wg_nm (Nat.le_of_ble_eq_true rfl) ?_) | (refine ⟨⟨Nat.le_of_ble_eq_true rfl, Nat.le_of_ble_eq_true rfl⟩, ?_⟩) | (with_reducible refine Or.inl ⟨_, rfl, ?_⟩) | (with_reducible refine Or.inr ⟨_, rfl, ?_⟩))
        refine (good (.inr (of_decide_eq_true r))).mono fun d S1 h => ?_
        repeat (first | with_reducible (first | refine ws_seq ?_ | refine nxt_nx ?_ | refine lp_nx ?_ | refine lp_ct ?_ | refine lp_bk ?_ | refine lp_rt ?_ | refine lp_rf ?_ | refine nxt_rt ?_ | refine nxt_rf ?_ | refine nxt_bk ?_ | refine nxt_ct ?_ | refine end_nx ?_ | refine end_rt ?_ | refine end_rf ?_ | refine ws_next ?_ | refine ws_brk ?_ | refine ws_cnt ?_ | refine ws_do ?_ | refine ws_ret ?_ | refine ws_retF ?_ | refine ws_retN ?_ | refine ws_set ?_ | refine ws_acc ?_ | refine ws_par ?_ | refine ws_asg ?_ | refine ws_for ?_ | refine ws_if ?_ | refine we_2 ?_ | refine we_1 ?_ | refine we_n ?_ | refine we_3 ?_ | refine we_c ?_ | refine wo_none ?_ | refine wo_some ?_ | refine wl_cons ?_ | refine wl_nil ?_ | refine we_V ?_ | refine we_own ?_ | refine we_tup ?_ | refine wl_lst ?_ | refine wt_of ?_ | refine wt_or ?_ | refine wt_and ?_ | refine wt_not ?_ | refine we_and ?_ | refine we_or ?_ | refine we_not ?_ | refine we_if ?_ | refine we_isN ?_ | refine we_notN ?_ | refine we_chain ?_ | refine wt_yes ?_ | refine wi_L ?_ | refine wi_T ?_ | refine wi_S ?_ | refine wi_R1 ?_ | refine wi_R2 ?_ | refine wi_R3 ?_ | refine wi_E ?_ | refine we_call ?_ | refine we_callF ?_ | refine we_bm ?_ | refine wg_sb ?_ | refine we_m1 ?_ | refine we_rev ?_ | refine wo_add ?_ | refine wo_sub ?_ | refine wo_neg ?_ | refine wo_cmp ?_ | refine wo_eqI ?_ | refine wo_neI ?_ | refine wo_eqS ?_ | refine wo_neS ?_ | refine wo_eqB ?_ | refine wo_neB ?_ | refine wo_lenL ?_ | refine wo_lenT ?_ | refine wo_lenC ?_ | refine wo_max ?_ | refine wo_min ?_ | refine wo_slL ?_ | refine wo_listC ?_ | refine wo_listL ?_ | refine wo_listT ?_ | refine wo_tupT ?_ | refine wo_tupL ?_ | refine wo_intI ?_ | refine wo_intB ?_ | refine wo_strS ?_ | refine wo_inS ?_ | refine wo_ninS ?_) | ((with_reducible apply we_var); rfl) | ((with_reducible apply ws_frz); rfl) | ((with_reducible apply ws_app); rfl) | ((with_reducible apply ws_extend); rfl) | ((with_reducible apply ws_retA); rfl) | ((with_reducible apply ws_frz0); rfl) | ((with_reducible apply wo_isT); rfl; rfl) | (refine ⟨Nat.le_of_ble_eq_true rfl, ?_⟩) | (with_reducible refine ⟨_, rfl, ?_⟩) | (with_reducible refine wg_nm (Nat.le_of_ble_eq_true rfl) ?_) | (refine ⟨⟨Nat.le_of_ble_eq_true rfl, Nat.le_of_ble_eq_true rfl⟩, ?_⟩) | (with_reducible refine Or.inl ⟨_, rfl, ?_⟩) | (with_reducible refine Or.inr ⟨_, rfl, ?_⟩))
        exact h
      · repeat (first | with_reducible (first | refine ws_seq ?_ | refine nxt_nx ?_ | refine lp_nx ?_ | refine lp_ct ?_ | refine lp_bk ?_ | refine lp_rt ?_ | refine lp_rf ?_ | refine nxt_rt ?_ | refine nxt_rf ?_ | refine nxt_bk ?_ | refine nxt_ct ?_ | refine end_nx ?_ | refine end_rt ?_ | refine end_rf ?_ | refine ws_next ?_ | refine ws_brk ?_ | refine ws_cnt ?_ | refine ws_do ?_ | refine ws_ret ?_ | refine ws_retF ?_ | refine ws_retN ?_ | refine ws_set ?_ | refine ws_acc ?_ | refine ws_par ?_ | refine ws_asg ?_ | refine ws_for ?_ | refine ws_if ?_ | refine we_2 ?_ | refine we_1 ?_ | refine we_n ?_ | refine we_3 ?_ | refine we_c ?_ | refine wo_none ?_ | refine wo_some ?_ | refine wl_cons ?_ | refine wl_nil ?_ | refine we_V ?_ | refine we_own ?_ | refine we_tup ?_ | refine wl_lst ?_ | refine wt_of ?_ | refine wt_or ?_ | refine wt_and ?_ | refine wt_not ?_ | refine we_and ?_ | refine we_or ?_ | refine we_not ?_ | refine we_if ?_ | refine we_isN ?_ | refine we_notN ?_ | refine we_chain ?_ | refine wt_yes ?_ | refine wi_L ?_ | refine wi_T ?_ | refine wi_S ?_ | refine wi_R1 ?_ | refine wi_R2 ?_ | refine wi_R3 ?_ | refine wi_E ?_ | refine we_call ?_ | refine we_callF ?_ | refine we_bm ?_ | refine wg_sb ?_ | refine we_m1 ?_ | refine we_rev ?_ | refine wo_add ?_ | refine wo_sub ?_ | refine wo_neg ?_ | refine wo_cmp ?_ | refine wo_eqI ?_ | refine wo_neI ?_ | refine wo_eqS ?_ | refine wo_neS ?_ | refine wo_eqB ?_ | refine wo_neB ?_ | refine wo_lenL ?_ | refine wo_lenT ?_ | refine wo_lenC ?_ | refine wo_max ?_ | refine wo_min ?_ | refine wo_slL ?_ | refine wo_listC ?_ | refine wo_listL ?_ | refine wo_listT ?_ | refine wo_tupT ?_ | refine wo_tupL ?_ | refine wo_intI ?_ | refine wo_intB ?_ | refine wo_strS ?_ | refine wo_inS ?_ | refine wo_ninS ?_) | ((with_reducible apply we_var); rfl) | ((with_reducible apply ws_frz); rfl) | ((with_reducible apply ws_app); rfl) | ((with_reducible apply ws_extend); rfl) | ((with_reducible apply ws_retA); rfl) | ((with_reducible apply ws_frz0); rfl) | ((with_reducible apply wo_isT); rfl; rfl) | (refine ⟨Nat.le_of_ble_eq_true rfl, ?_⟩) | (with_reducible refine ⟨_, rfl, ?_⟩) | (with_reducible refine wg_nm (Nat.le_of_ble_eq_true rfl) ?_) | (refine ⟨⟨Nat.le_of_ble_eq_true rfl, Nat.le_of_ble_eq_true rfl⟩, ?_⟩) | (with_reducible refine Or.inl ⟨_, rfl, ?_⟩) | (with_reducible refine Or.inr ⟨_, rfl, ?_⟩))
        rw [bad ?_]
        · exact ⟨rfl, rfl⟩
        · intro h
          have q : x = 48 := by simpa using q
          have r := of_decide_eq_false r
          rcases h.2.2 with h | h
          · exact h (by simp [q])
          · exact r h
/-! unpacked -/
def unpackV (t : List Nat) : Option (List (List Nat)) := match splitC 46 t with
  | [a, b, c] => if c.drop (c.length - 1) = [33] ∧ (∀ x ∈ c.take (c.length - 1), x ∈ sb) ∧ numV a = some (c.take (c.length - 1)).length ∧ numV b = some (sumV (c.take (c.length - 1))) then some (splitC 124 (c.take (c.length - 1))) else none
  | _ => none
def unpD : Option (List (List Nat)) → Out
  | some fs => .f (fs.map .str)
  | none => .v .non
def bUnpacked : EvS := (sSeq (sAsg (eV (eM1 fSplit (eVar 0) (eC (.str [46])))) (gNm 1))
  (sSeq (sIf (tOrE (tOf (e2 fNe (eN fLen (aCons (eVar 1) aNil)) (eC (.int 3)))) (tOf (e2 fNe (e3 fSl (e2 fIx (eVar 1) (eC (.int 2))) (oSome (e1 fNeg (eC (.int 1)))) oNone) (eC (.str [33]))))) (sRet (eC .non)) sNext)
  (sSeq (sAsg (e3 fSl (e2 fIx (eVar 1) (eC (.int 2))) oNone (oSome (e1 fNeg (eC (.int 1))))) (gNm 2))
  (sSeq (sIf (tOf (e2 fNe (eV (fLc (iS (eVar 2)) [3] (pNm 3) (tOf (e2 fNotInS (eVar 3) (e2 fAdd (eC (.str sg)) (eC (.str [124]))))) (eVar 3))) (eV (fLst aNil)))) (sRet (eC .non)) sNext)
  (sSeq (sIf (tOrE (tOf (e2 fNe (eN (callE F_number) (aCons (e2 fIx (eVar 1) (eC (.int 0))) aNil)) (eN fLen (aCons (eVar 2) aNil)))) (tOf (e2 fNe (eN (callE F_number) (aCons (e2 fIx (eVar 1) (eC (.int 1))) aNil)) (eN (callE F_sum) (aCons (eVar 2) aNil))))) (sRet (eC .non)) sNext)
  (sRetF (eM1 fSplit (eVar 2) (eC (.str [124])))))))))
def F_unpacked : Fn := runB 1 4 bUnpacked
theorem split_mem {c x : Nat} : ∀ {z p : List Nat}, p ∈ splitC c z → x ∈ p → x ∈ z
  | [], p, h, hx => by
    rw [splitC, List.mem_singleton] at h
    rw [h] at hx
    exact hx
  | y :: z, p, h, hx => by
    unfold splitC at h
    split at h
    · rcases List.mem_cons.mp h with h | h
      · rw [h] at hx
        cases hx
      · exact List.mem_cons_of_mem _ (split_mem h hx)
    · cases e : splitC c z with
      | nil => exact absurd e (splitC_ne c z)
      | cons q qs =>
        rw [e] at h
        rcases List.mem_cons.mp h with h | h
        · rw [h] at hx
          rcases List.mem_cons.mp hx with hx | hx
          · rw [hx]
            exact List.mem_cons_self ..
          · exact List.mem_cons_of_mem _ (split_mem (p := q) (by rw [e]; exact List.mem_cons_self ..) hx)
        · exact List.mem_cons_of_mem _ (split_mem (p := p) (by rw [e]; exact List.mem_cons_of_mem _ h) hx)
theorem split_len {c : Nat} : ∀ {z p : List Nat}, p ∈ splitC c z → p.length ≤ z.length
  | [], p, h => by
    rw [splitC, List.mem_singleton] at h
    rw [h]
    exact Nat.le_refl _
  | y :: z, p, h => by
    unfold splitC at h
    split at h
    · rcases List.mem_cons.mp h with h | h
      · rw [h]
        exact Nat.zero_le _
      · exact Nat.le_succ_of_le (split_len h)
    · cases e : splitC c z with
      | nil => exact absurd e (splitC_ne c z)
      | cons q qs =>
        rw [e] at h
        rcases List.mem_cons.mp h with h | h
        · rw [h]
          exact Nat.succ_le_succ (split_len (p := q) (by rw [e]; exact List.mem_cons_self ..))
        · exact Nat.le_succ_of_le (split_len (p := p) (by rw [e]; exact List.mem_cons_of_mem _ h))
theorem num_ne {o : Option Nat} {n : Nat} {S : Sto} {P : D → Sto → Prop} (h : P (.bl (!decide (o = some n))) S) : W (fNe (numD o) (.int n) S) P := by
  cases o with
  | none => exact wo_neNI h
  | some m =>
    refine wo_neI ?_
    have e : decide ((m : Int) = (n : Int)) = decide (some m = some n) := by
      by_cases q : m = n
      · subst q
        simp
      · have q2 : ¬ (m : Int) = (n : Int) := by omega
        have q3 : ¬ some m = some n := fun r => q (Option.some.inj r)
        rw [decide_eq_false q2, decide_eq_false q3]
    rw [e]
    exact h
theorem unpacked_ok {S : Sto} {t : List Nat} (hl : t.length ≤ 16000000) (ht : okS t) : W (F_unpacked [.str t] S) fun o S' => o = unpD (unpackV t) ∧ S' = S := by
  refine w_run rfl ?_
  show WS (bUnpacked [.val (.str t), .no, .no, .no] S) _
  unfold bUnpacked
  repeat (first | with_reducible (first | refine ws_seq ?_ | refine nxt_nx ?_ | refine lp_nx ?_ | refine lp_ct ?_ | refine lp_bk ?_ | refine lp_rt ?_ | refine lp_rf ?_ | refine nxt_rt ?_ | refine nxt_rf ?_ | refine nxt_bk ?_ | refine nxt_ct ?_ | refine end_nx ?_ | refine end_rt ?_ | refine end_rf ?_ | refine ws_next ?_ | refine ws_brk ?_ | refine ws_cnt ?_ | refine ws_do ?_ | refine ws_ret ?_ | refine ws_retF ?_ | refine ws_retN ?_ | refine ws_set ?_ | refine ws_acc ?_ | refine ws_par ?_ | refine ws_asg ?_ | refine ws_for ?_ | refine ws_if ?_ | refine we_2 ?_ | refine we_1 ?_ | refine we_n ?_ | refine we_3 ?_ | refine we_c ?_ | refine wo_none ?_ | refine wo_some ?_ | refine wl_cons ?_ | refine wl_nil ?_ | refine we_V ?_ | refine we_own ?_ | refine we_tup ?_ | refine wl_lst ?_ | refine wt_of ?_ | refine wt_or ?_ | refine wt_and ?_ | refine wt_not ?_ | refine we_and ?_ | refine we_or ?_ | refine we_not ?_ | refine we_if ?_ | refine we_isN ?_ | refine we_notN ?_ | refine we_chain ?_ | refine wt_yes ?_ | refine wi_L ?_ | refine wi_T ?_ | refine wi_S ?_ | refine wi_R1 ?_ | refine wi_R2 ?_ | refine wi_R3 ?_ | refine wi_E ?_ | refine we_call ?_ | refine we_callF ?_ | refine we_bm ?_ | refine wg_sb ?_ | refine we_m1 ?_ | refine we_rev ?_ | refine wo_add ?_ | refine wo_sub ?_ | refine wo_neg ?_ | refine wo_cmp ?_ | refine wo_eqI ?_ | refine wo_neI ?_ | refine wo_eqS ?_ | refine wo_neS ?_ | refine wo_eqB ?_ | refine wo_neB ?_ | refine wo_lenL ?_ | refine wo_lenT ?_ | refine wo_lenC ?_ | refine wo_max ?_ | refine wo_min ?_ | refine wo_slL ?_ | refine wo_listC ?_ | refine wo_listL ?_ | refine wo_listT ?_ | refine wo_tupT ?_ | refine wo_tupL ?_ | refine wo_intI ?_ | refine wo_intB ?_ | refine wo_strS ?_ | refine wo_inS ?_ | refine wo_ninS ?_) | ((with_reducible apply we_var); rfl) | ((with_reducible apply ws_frz); rfl) | ((with_reducible apply ws_app); rfl) | ((with_reducible apply ws_extend); rfl) | ((with_reducible apply ws_retA); rfl) | ((with_reducible apply ws_frz0); rfl) | ((with_reducible apply wo_isT); rfl; rfl) | (refine ⟨Nat.le_of_ble_eq_true rfl, ?_⟩) | (with_reducible refine ⟨_, rfl, ?_⟩) | (with_reducible refine wg_nm (Nat.le_of_ble_eq_true rfl) ?_) | (refine ⟨⟨Nat.le_of_ble_eq_true rfl, Nat.le_of_ble_eq_true rfl⟩, ?_⟩) | (with_reducible refine Or.inl ⟨_, rfl, ?_⟩) | (with_reducible refine Or.inr ⟨_, rfl, ?_⟩))
  refine wo_split ⟨by decide, by omega⟩ ?_
  repeat (first | with_reducible (first | refine ws_seq ?_ | refine nxt_nx ?_ | refine lp_nx ?_ | refine lp_ct ?_ | refine lp_bk ?_ | refine lp_rt ?_ | refine lp_rf ?_ | refine nxt_rt ?_ | refine nxt_rf ?_ | refine nxt_bk ?_ | refine nxt_ct ?_ | refine end_nx ?_ | refine end_rt ?_ | refine end_rf ?_ | refine ws_next ?_ | refine ws_brk ?_ | refine ws_cnt ?_ | refine ws_do ?_ | refine ws_ret ?_ | refine ws_retF ?_ | refine ws_retN ?_ | refine ws_set ?_ | refine ws_acc ?_ | refine ws_par ?_ | refine ws_asg ?_ | refine ws_for ?_ | refine ws_if ?_ | refine we_2 ?_ | refine we_1 ?_ | refine we_n ?_ | refine we_3 ?_ | refine we_c ?_ | refine wo_none ?_ | refine wo_some ?_ | refine wl_cons ?_ | refine wl_nil ?_ | refine we_V ?_ | refine we_own ?_ | refine we_tup ?_ | refine wl_lst ?_ | refine wt_of ?_ | refine wt_or ?_ | refine wt_and ?_ | refine wt_not ?_ | refine we_and ?_ | refine we_or ?_ | refine we_not ?_ | refine we_if ?_ | refine we_isN ?_ | refine we_notN ?_ | refine we_chain ?_ | refine wt_yes ?_ | refine wi_L ?_ | refine wi_T ?_ | refine wi_S ?_ | refine wi_R1 ?_ | refine wi_R2 ?_ | refine wi_R3 ?_ | refine wi_E ?_ | refine we_call ?_ | refine we_callF ?_ | refine we_bm ?_ | refine wg_sb ?_ | refine we_m1 ?_ | refine we_rev ?_ | refine wo_add ?_ | refine wo_sub ?_ | refine wo_neg ?_ | refine wo_cmp ?_ | refine wo_eqI ?_ | refine wo_neI ?_ | refine wo_eqS ?_ | refine wo_neS ?_ | refine wo_eqB ?_ | refine wo_neB ?_ | refine wo_lenL ?_ | refine wo_lenT ?_ | refine wo_lenC ?_ | refine wo_max ?_ | refine wo_min ?_ | refine wo_slL ?_ | refine wo_listC ?_ | refine wo_listL ?_ | refine wo_listT ?_ | refine wo_tupT ?_ | refine wo_tupL ?_ | refine wo_intI ?_ | refine wo_intB ?_ | refine wo_strS ?_ | refine wo_inS ?_ | refine wo_ninS ?_) | ((with_reducible apply we_var); rfl) | ((with_reducible apply ws_frz); rfl) | ((with_reducible apply ws_app); rfl) | ((with_reducible apply ws_extend); rfl) | ((with_reducible apply ws_retA); rfl) | ((with_reducible apply ws_frz0); rfl) | ((with_reducible apply wo_isT); rfl; rfl) | (refine ⟨Nat.le_of_ble_eq_true rfl, ?_⟩) | (with_reducible refine ⟨_, rfl, ?_⟩) | (with_reducible refine wg_nm (Nat.le_of_ble_eq_true rfl) ?_) | (refine ⟨⟨Nat.le_of_ble_eq_true rfl, Nat.le_of_ble_eq_true rfl⟩, ?_⟩) | (with_reducible refine Or.inl ⟨_, rfl, ?_⟩) | (with_reducible refine Or.inr ⟨_, rfl, ?_⟩))
  have hmem := @split_mem 46
  have hlen := @split_len 46
  unfold unpackV
  have three : (splitC 46 t).length = 3 → ∃ a b c, splitC 46 t = [a, b, c] := fun h => by
    match splitC 46 t, h with
    | [a, b, c], _ => exact ⟨a, b, c, rfl⟩
  refine ⟨fun z => ?_, fun z => ?_⟩
  · refine ⟨fun _ => ?_, fun q => nomatch q⟩
    repeat (first | with_reducible (first | refine ws_seq ?_ | refine nxt_nx ?_ | refine lp_nx ?_ | refine lp_ct ?_ | refine lp_bk ?_ | refine lp_rt ?_ | refine lp_rf ?_ | refine nxt_rt ?_ | refine nxt_rf ?_ | refine nxt_bk ?_ | refine nxt_ct ?_ | refine end_nx ?_ | refine end_rt ?_ | refine end_rf ?_ | refine ws_next ?_ | refine ws_brk ?_ | refine ws_cnt ?_ | refine ws_do ?_ | refine ws_ret ?_ | refine ws_retF ?_ | refine ws_retN ?_ | refine ws_set ?_ | refine ws_acc ?_ | refine ws_par ?_ | refine ws_asg ?_ | refine ws_for ?_ | refine ws_if ?_ | refine we_2 ?_ | refine we_1 ?_ | refine we_n ?_ | refine we_3 ?_ | refine we_c ?_ | refine wo_none ?_ | refine wo_some ?_ | refine wl_cons ?_ | refine wl_nil ?_ | refine we_V ?_ | refine we_own ?_ | refine we_tup ?_ | refine wl_lst ?_ | refine wt_of ?_ | refine wt_or ?_ | refine wt_and ?_ | refine wt_not ?_ | refine we_and ?_ | refine we_or ?_ | refine we_not ?_ | refine we_if ?_ | refine we_isN ?_ | refine we_notN ?_ | refine we_chain ?_ | refine wt_yes ?_ | refine wi_L ?_ | refine wi_T ?_ | refine wi_S ?_ | refine wi_R1 ?_ | refine wi_R2 ?_ | refine wi_R3 ?_ | refine wi_E ?_ | refine we_call ?_ | refine we_callF ?_ | refine we_bm ?_ | refine wg_sb ?_ | refine we_m1 ?_ | refine we_rev ?_ | refine wo_add ?_ | refine wo_sub ?_ | refine wo_neg ?_ | refine wo_cmp ?_ | refine wo_eqI ?_ | refine wo_neI ?_ | refine wo_eqS ?_ | refine wo_neS ?_ | refine wo_eqB ?_ | refine wo_neB ?_ | refine wo_lenL ?_ | refine wo_lenT ?_ | refine wo_lenC ?_ | refine wo_max ?_ | refine wo_min ?_ | refine wo_slL ?_ | refine wo_listC ?_ | refine wo_listL ?_ | refine wo_listT ?_ | refine wo_tupT ?_ | refine wo_tupL ?_ | refine wo_intI ?_ | refine wo_intB ?_ | refine wo_strS ?_ | refine wo_inS ?_ | refine wo_ninS ?_) | ((with_reducible apply we_var); rfl) | ((with_reducible apply ws_frz); rfl) | ((with_reducible apply ws_app); rfl) | ((with_reducible apply ws_extend); rfl) | ((with_reducible apply ws_retA); rfl) | ((with_reducible apply ws_frz0); rfl) | ((with_reducible apply wo_isT); rfl; rfl) | (refine ⟨Nat.le_of_ble_eq_true rfl, ?_⟩) | (with_reducible refine ⟨_, rfl, ?_⟩) | (with_reducible refine wg_nm (Nat.le_of_ble_eq_true rfl) ?_) | (refine ⟨⟨Nat.le_of_ble_eq_true rfl, Nat.le_of_ble_eq_true rfl⟩, ?_⟩) | (with_reducible refine Or.inl ⟨_, rfl, ?_⟩) | (with_reducible refine Or.inr ⟨_, rfl, ?_⟩))
    have z : (splitC 46 t).length ≠ 3 := fun q => by
      rw [List.length_map, q] at z
      cases z
    split
    · rename_i a b c e
      rw [e] at z
      exact absurd rfl z
    · exact ⟨rfl, rfl⟩
  have z1 : (splitC 46 t).length = 3 := by
    rw [List.length_map] at z
    simp at z
    omega
  obtain ⟨a, b, c, e⟩ := three z1
  have la := hlen (z := t) (p := a) (by rw [e]; simp)
  have lb := hlen (z := t) (p := b) (by rw [e]; simp)
  have lc := hlen (z := t) (p := c) (by rw [e]; simp)
  have oa : okS a := fun x hx => ht x (hmem (z := t) (p := a) (by rw [e]; simp) hx)
  have ob : okS b := fun x hx => ht x (hmem (z := t) (p := b) (by rw [e]; simp) hx)
  have oc : okS c := fun x hx => ht x (hmem (z := t) (p := c) (by rw [e]; simp) hx)
  rw [e]
  dsimp only
  have bad : ∀ {S1 : Sto} {ρ : Rho}, S1 = S → ¬ (c.drop (c.length - 1) = [33] ∧ (∀ x ∈ c.take (c.length - 1), x ∈ sb) ∧ numV a = some (c.take (c.length - 1)).length ∧ numV b = some (sumV (c.take (c.length - 1)))) →
    Out.v .non = unpD (if c.drop (c.length - 1) = [33] ∧ (∀ x ∈ c.take (c.length - 1), x ∈ sb) ∧ numV a = some (c.take (c.length - 1)).length ∧ numV b = some (sumV (c.take (c.length - 1))) then some (splitC 124 (c.take (c.length - 1))) else none) ∧ S1 = S := fun h q => by
    rw [if_neg q]
    exact ⟨rfl, h⟩
  repeat (first | with_reducible (first | refine ws_seq ?_ | refine nxt_nx ?_ | refine lp_nx ?_ | refine lp_ct ?_ | refine lp_bk ?_ | refine lp_rt ?_ | refine lp_rf ?_ | refine nxt_rt ?_ | refine nxt_rf ?_ | refine nxt_bk ?_ | refine nxt_ct ?_ | refine end_nx ?_ | refine end_rt ?_ | refine end_rf ?_ | refine ws_next ?_ | refine ws_brk ?_ | refine ws_cnt ?_ | refine ws_do ?_ | refine ws_ret ?_ | refine ws_retF ?_ | refine ws_retN ?_ | refine ws_set ?_ | refine ws_acc ?_ | refine ws_par ?_ | refine ws_asg ?_ | refine ws_for ?_ | refine ws_if ?_ | refine we_2 ?_ | refine we_1 ?_ | refine we_n ?_ | refine we_3 ?_ | refine we_c ?_ | refine wo_none ?_ | refine wo_some ?_ | refine wl_cons ?_ | refine wl_nil ?_ | refine we_V ?_ | refine we_own ?_ | refine we_tup ?_ | refine wl_lst ?_ | refine wt_of ?_ | refine wt_or ?_ | refine wt_and ?_ | refine wt_not ?_ | refine we_and ?_ | refine we_or ?_ | refine we_not ?_ | refine we_if ?_ | refine we_isN ?_ | refine we_notN ?_ | refine we_chain ?_ | refine wt_yes ?_ | refine wi_L ?_ | refine wi_T ?_ | refine wi_S ?_ | refine wi_R1 ?_ | refine wi_R2 ?_ | refine wi_R3 ?_ | refine wi_E ?_ | refine we_call ?_ | refine we_callF ?_ | refine we_bm ?_ | refine wg_sb ?_ | refine we_m1 ?_ | refine we_rev ?_ | refine wo_add ?_ | refine wo_sub ?_ | refine wo_neg ?_ | refine wo_cmp ?_ | refine wo_eqI ?_ | refine wo_neI ?_ | refine wo_eqS ?_ | refine wo_neS ?_ | refine wo_eqB ?_ | refine wo_neB ?_ | refine wo_lenL ?_ | refine wo_lenT ?_ | refine wo_lenC ?_ | refine wo_max ?_ | refine wo_min ?_ | refine wo_slL ?_ | refine wo_listC ?_ | refine wo_listL ?_ | refine wo_listT ?_ | refine wo_tupT ?_ | refine wo_tupL ?_ | refine wo_intI ?_ | refine wo_intB ?_ | refine wo_strS ?_ | refine wo_inS ?_ | refine wo_ninS ?_) | ((with_reducible apply we_var); rfl) | ((with_reducible apply ws_frz); rfl) | ((with_reducible apply ws_app); rfl) | ((with_reducible apply ws_extend); rfl) | ((with_reducible apply ws_retA); rfl) | ((with_reducible apply ws_frz0); rfl) | ((with_reducible apply wo_isT); rfl; rfl) | (refine ⟨Nat.le_of_ble_eq_true rfl, ?_⟩) | (with_reducible refine ⟨_, rfl, ?_⟩) | (with_reducible refine wg_nm (Nat.le_of_ble_eq_true rfl) ?_) | (refine ⟨⟨Nat.le_of_ble_eq_true rfl, Nat.le_of_ble_eq_true rfl⟩, ?_⟩) | (with_reducible refine Or.inl ⟨_, rfl, ?_⟩) | (with_reducible refine Or.inr ⟨_, rfl, ?_⟩))
  refine wo_ixL (d := .str c) (by decide) rfl ?_
  repeat (first | with_reducible (first | refine ws_seq ?_ | refine nxt_nx ?_ | refine lp_nx ?_ | refine lp_ct ?_ | refine lp_bk ?_ | refine lp_rt ?_ | refine lp_rf ?_ | refine nxt_rt ?_ | refine nxt_rf ?_ | refine nxt_bk ?_ | refine nxt_ct ?_ | refine end_nx ?_ | refine end_rt ?_ | refine end_rf ?_ | refine ws_next ?_ | refine ws_brk ?_ | refine ws_cnt ?_ | refine ws_do ?_ | refine ws_ret ?_ | refine ws_retF ?_ | refine ws_retN ?_ | refine ws_set ?_ | refine ws_acc ?_ | refine ws_par ?_ | refine ws_asg ?_ | refine ws_for ?_ | refine ws_if ?_ | refine we_2 ?_ | refine we_1 ?_ | refine we_n ?_ | refine we_3 ?_ | refine we_c ?_ | refine wo_none ?_ | refine wo_some ?_ | refine wl_cons ?_ | refine wl_nil ?_ | refine we_V ?_ | refine we_own ?_ | refine we_tup ?_ | refine wl_lst ?_ | refine wt_of ?_ | refine wt_or ?_ | refine wt_and ?_ | refine wt_not ?_ | refine we_and ?_ | refine we_or ?_ | refine we_not ?_ | refine we_if ?_ | refine we_isN ?_ | refine we_notN ?_ | refine we_chain ?_ | refine wt_yes ?_ | refine wi_L ?_ | refine wi_T ?_ | refine wi_S ?_ | refine wi_R1 ?_ | refine wi_R2 ?_ | refine wi_R3 ?_ | refine wi_E ?_ | refine we_call ?_ | refine we_callF ?_ | refine we_bm ?_ | refine wg_sb ?_ | refine we_m1 ?_ | refine we_rev ?_ | refine wo_add ?_ | refine wo_sub ?_ | refine wo_neg ?_ | refine wo_cmp ?_ | refine wo_eqI ?_ | refine wo_neI ?_ | refine wo_eqS ?_ | refine wo_neS ?_ | refine wo_eqB ?_ | refine wo_neB ?_ | refine wo_lenL ?_ | refine wo_lenT ?_ | refine wo_lenC ?_ | refine wo_max ?_ | refine wo_min ?_ | refine wo_slL ?_ | refine wo_listC ?_ | refine wo_listL ?_ | refine wo_listT ?_ | refine wo_tupT ?_ | refine wo_tupL ?_ | refine wo_intI ?_ | refine wo_intB ?_ | refine wo_strS ?_ | refine wo_inS ?_ | refine wo_ninS ?_) | ((with_reducible apply we_var); rfl) | ((with_reducible apply ws_frz); rfl) | ((with_reducible apply ws_app); rfl) | ((with_reducible apply ws_extend); rfl) | ((with_reducible apply ws_retA); rfl) | ((with_reducible apply ws_frz0); rfl) | ((with_reducible apply wo_isT); rfl; rfl) | (refine ⟨Nat.le_of_ble_eq_true rfl, ?_⟩) | (with_reducible refine ⟨_, rfl, ?_⟩) | (with_reducible refine wg_nm (Nat.le_of_ble_eq_true rfl) ?_) | (refine ⟨⟨Nat.le_of_ble_eq_true rfl, Nat.le_of_ble_eq_true rfl⟩, ?_⟩) | (with_reducible refine Or.inl ⟨_, rfl, ?_⟩) | (with_reducible refine Or.inr ⟨_, rfl, ?_⟩))
  refine wo_slS (by omega) ?_
  rw [cut_last1]
  repeat (first | with_reducible (first | refine ws_seq ?_ | refine nxt_nx ?_ | refine lp_nx ?_ | refine lp_ct ?_ | refine lp_bk ?_ | refine lp_rt ?_ | refine lp_rf ?_ | refine nxt_rt ?_ | refine nxt_rf ?_ | refine nxt_bk ?_ | refine nxt_ct ?_ | refine end_nx ?_ | refine end_rt ?_ | refine end_rf ?_ | refine ws_next ?_ | refine ws_brk ?_ | refine ws_cnt ?_ | refine ws_do ?_ | refine ws_ret ?_ | refine ws_retF ?_ | refine ws_retN ?_ | refine ws_set ?_ | refine ws_acc ?_ | refine ws_par ?_ | refine ws_asg ?_ | refine ws_for ?_ | refine ws_if ?_ | refine we_2 ?_ | refine we_1 ?_ | refine we_n ?_ | refine we_3 ?_ | refine we_c ?_ | refine wo_none ?_ | refine wo_some ?_ | refine wl_cons ?_ | refine wl_nil ?_ | refine we_V ?_ | refine we_own ?_ | refine we_tup ?_ | refine wl_lst ?_ | refine wt_of ?_ | refine wt_or ?_ | refine wt_and ?_ | refine wt_not ?_ | refine we_and ?_ | refine we_or ?_ | refine we_not ?_ | refine we_if ?_ | refine we_isN ?_ | refine we_notN ?_ | refine we_chain ?_ | refine wt_yes ?_ | refine wi_L ?_ | refine wi_T ?_ | refine wi_S ?_ | refine wi_R1 ?_ | refine wi_R2 ?_ | refine wi_R3 ?_ | refine wi_E ?_ | refine we_call ?_ | refine we_callF ?_ | refine we_bm ?_ | refine wg_sb ?_ | refine we_m1 ?_ | refine we_rev ?_ | refine wo_add ?_ | refine wo_sub ?_ | refine wo_neg ?_ | refine wo_cmp ?_ | refine wo_eqI ?_ | refine wo_neI ?_ | refine wo_eqS ?_ | refine wo_neS ?_ | refine wo_eqB ?_ | refine wo_neB ?_ | refine wo_lenL ?_ | refine wo_lenT ?_ | refine wo_lenC ?_ | refine wo_max ?_ | refine wo_min ?_ | refine wo_slL ?_ | refine wo_listC ?_ | refine wo_listL ?_ | refine wo_listT ?_ | refine wo_tupT ?_ | refine wo_tupL ?_ | refine wo_intI ?_ | refine wo_intB ?_ | refine wo_strS ?_ | refine wo_inS ?_ | refine wo_ninS ?_) | ((with_reducible apply we_var); rfl) | ((with_reducible apply ws_frz); rfl) | ((with_reducible apply ws_app); rfl) | ((with_reducible apply ws_extend); rfl) | ((with_reducible apply ws_retA); rfl) | ((with_reducible apply ws_frz0); rfl) | ((with_reducible apply wo_isT); rfl; rfl) | (refine ⟨Nat.le_of_ble_eq_true rfl, ?_⟩) | (with_reducible refine ⟨_, rfl, ?_⟩) | (with_reducible refine wg_nm (Nat.le_of_ble_eq_true rfl) ?_) | (refine ⟨⟨Nat.le_of_ble_eq_true rfl, Nat.le_of_ble_eq_true rfl⟩, ?_⟩) | (with_reducible refine Or.inl ⟨_, rfl, ?_⟩) | (with_reducible refine Or.inr ⟨_, rfl, ?_⟩))
  refine ⟨fun z => ?_, fun z => ?_⟩
  · repeat (first | with_reducible (first | refine ws_seq ?_ | refine nxt_nx ?_ | refine lp_nx ?_ | refine lp_ct ?_ | refine lp_bk ?_ | refine lp_rt ?_ | refine lp_rf ?_ | refine nxt_rt ?_ | refine nxt_rf ?_ | refine nxt_bk ?_ | refine nxt_ct ?_ | refine end_nx ?_ | refine end_rt ?_ | refine end_rf ?_ | refine ws_next ?_ | refine ws_brk ?_ | refine ws_cnt ?_ | refine ws_do ?_ | refine ws_ret ?_ | refine ws_retF ?_ | refine ws_retN ?_ | refine ws_set ?_ | refine ws_acc ?_ | refine ws_par ?_ | refine ws_asg ?_ | refine ws_for ?_ | refine ws_if ?_ | refine we_2 ?_ | refine we_1 ?_ | refine we_n ?_ | refine we_3 ?_ | refine we_c ?_ | refine wo_none ?_ | refine wo_some ?_ | refine wl_cons ?_ | refine wl_nil ?_ | refine we_V ?_ | refine we_own ?_ | refine we_tup ?_ | refine wl_lst ?_ | refine wt_of ?_ | refine wt_or ?_ | refine wt_and ?_ | refine wt_not ?_ | refine we_and ?_ | refine we_or ?_ | refine we_not ?_ | refine we_if ?_ | refine we_isN ?_ | refine we_notN ?_ | refine we_chain ?_ | refine wt_yes ?_ | refine wi_L ?_ | refine wi_T ?_ | refine wi_S ?_ | refine wi_R1 ?_ | refine wi_R2 ?_ | refine wi_R3 ?_ | refine wi_E ?_ | refine we_call ?_ | refine we_callF ?_ | refine we_bm ?_ | refine wg_sb ?_ | refine we_m1 ?_ | refine we_rev ?_ | refine wo_add ?_ | refine wo_sub ?_ | refine wo_neg ?_ | refine wo_cmp ?_ | refine wo_eqI ?_ | refine wo_neI ?_ | refine wo_eqS ?_ | refine wo_neS ?_ | refine wo_eqB ?_ | refine wo_neB ?_ | refine wo_lenL ?_ | refine wo_lenT ?_ | refine wo_lenC ?_ | refine wo_max ?_ | refine wo_min ?_ | refine wo_slL ?_ | refine wo_listC ?_ | refine wo_listL ?_ | refine wo_listT ?_ | refine wo_tupT ?_ | refine wo_tupL ?_ | refine wo_intI ?_ | refine wo_intB ?_ | refine wo_strS ?_ | refine wo_inS ?_ | refine wo_ninS ?_) | ((with_reducible apply we_var); rfl) | ((with_reducible apply ws_frz); rfl) | ((with_reducible apply ws_app); rfl) | ((with_reducible apply ws_extend); rfl) | ((with_reducible apply ws_retA); rfl) | ((with_reducible apply ws_frz0); rfl) | ((with_reducible apply wo_isT); rfl; rfl) | (refine ⟨Nat.le_of_ble_eq_true rfl, ?_⟩) | (with_reducible refine ⟨_, rfl, ?_⟩) | (with_reducible refine wg_nm (Nat.le_of_ble_eq_true rfl) ?_) | (refine ⟨⟨Nat.le_of_ble_eq_true rfl, Nat.le_of_ble_eq_true rfl⟩, ?_⟩) | (with_reducible refine Or.inl ⟨_, rfl, ?_⟩) | (with_reducible refine Or.inr ⟨_, rfl, ?_⟩))
    refine bad (ρ := []) rfl fun q => ?_
    rw [decide_eq_true q.1] at z
    cases z
  have z2 : c.drop (c.length - 1) = [33] := by
    by_cases q : c.drop (c.length - 1) = [33]
    · exact q
    · rw [decide_eq_false q] at z
      cases z
  repeat (first | with_reducible (first | refine ws_seq ?_ | refine nxt_nx ?_ | refine lp_nx ?_ | refine lp_ct ?_ | refine lp_bk ?_ | refine lp_rt ?_ | refine lp_rf ?_ | refine nxt_rt ?_ | refine nxt_rf ?_ | refine nxt_bk ?_ | refine nxt_ct ?_ | refine end_nx ?_ | refine end_rt ?_ | refine end_rf ?_ | refine ws_next ?_ | refine ws_brk ?_ | refine ws_cnt ?_ | refine ws_do ?_ | refine ws_ret ?_ | refine ws_retF ?_ | refine ws_retN ?_ | refine ws_set ?_ | refine ws_acc ?_ | refine ws_par ?_ | refine ws_asg ?_ | refine ws_for ?_ | refine ws_if ?_ | refine we_2 ?_ | refine we_1 ?_ | refine we_n ?_ | refine we_3 ?_ | refine we_c ?_ | refine wo_none ?_ | refine wo_some ?_ | refine wl_cons ?_ | refine wl_nil ?_ | refine we_V ?_ | refine we_own ?_ | refine we_tup ?_ | refine wl_lst ?_ | refine wt_of ?_ | refine wt_or ?_ | refine wt_and ?_ | refine wt_not ?_ | refine we_and ?_ | refine we_or ?_ | refine we_not ?_ | refine we_if ?_ | refine we_isN ?_ | refine we_notN ?_ | refine we_chain ?_ | refine wt_yes ?_ | refine wi_L ?_ | refine wi_T ?_ | refine wi_S ?_ | refine wi_R1 ?_ | refine wi_R2 ?_ | refine wi_R3 ?_ | refine wi_E ?_ | refine we_call ?_ | refine we_callF ?_ | refine we_bm ?_ | refine wg_sb ?_ | refine we_m1 ?_ | refine we_rev ?_ | refine wo_add ?_ | refine wo_sub ?_ | refine wo_neg ?_ | refine wo_cmp ?_ | refine wo_eqI ?_ | refine wo_neI ?_ | refine wo_eqS ?_ | refine wo_neS ?_ | refine wo_eqB ?_ | refine wo_neB ?_ | refine wo_lenL ?_ | refine wo_lenT ?_ | refine wo_lenC ?_ | refine wo_max ?_ | refine wo_min ?_ | refine wo_slL ?_ | refine wo_listC ?_ | refine wo_listL ?_ | refine wo_listT ?_ | refine wo_tupT ?_ | refine wo_tupL ?_ | refine wo_intI ?_ | refine wo_intB ?_ | refine wo_strS ?_ | refine wo_inS ?_ | refine wo_ninS ?_) | ((with_reducible apply we_var); rfl) | ((with_reducible apply ws_frz); rfl) | ((with_reducible apply ws_app); rfl) | ((with_reducible apply ws_extend); rfl) | ((with_reducible apply ws_retA); rfl) | ((with_reducible apply ws_frz0); rfl) | ((with_reducible apply wo_isT); rfl; rfl) | (refine ⟨Nat.le_of_ble_eq_true rfl, ?_⟩) | (with_reducible refine ⟨_, rfl, ?_⟩) | (with_reducible refine wg_nm (Nat.le_of_ble_eq_true rfl) ?_) | (refine ⟨⟨Nat.le_of_ble_eq_true rfl, Nat.le_of_ble_eq_true rfl⟩, ?_⟩) | (with_reducible refine Or.inl ⟨_, rfl, ?_⟩) | (with_reducible refine Or.inr ⟨_, rfl, ?_⟩))
  refine wo_ixL (d := .str c) (by decide) rfl ?_
  repeat (first | with_reducible (first | refine ws_seq ?_ | refine nxt_nx ?_ | refine lp_nx ?_ | refine lp_ct ?_ | refine lp_bk ?_ | refine lp_rt ?_ | refine lp_rf ?_ | refine nxt_rt ?_ | refine nxt_rf ?_ | refine nxt_bk ?_ | refine nxt_ct ?_ | refine end_nx ?_ | refine end_rt ?_ | refine end_rf ?_ | refine ws_next ?_ | refine ws_brk ?_ | refine ws_cnt ?_ | refine ws_do ?_ | refine ws_ret ?_ | refine ws_retF ?_ | refine ws_retN ?_ | refine ws_set ?_ | refine ws_acc ?_ | refine ws_par ?_ | refine ws_asg ?_ | refine ws_for ?_ | refine ws_if ?_ | refine we_2 ?_ | refine we_1 ?_ | refine we_n ?_ | refine we_3 ?_ | refine we_c ?_ | refine wo_none ?_ | refine wo_some ?_ | refine wl_cons ?_ | refine wl_nil ?_ | refine we_V ?_ | refine we_own ?_ | refine we_tup ?_ | refine wl_lst ?_ | refine wt_of ?_ | refine wt_or ?_ | refine wt_and ?_ | refine wt_not ?_ | refine we_and ?_ | refine we_or ?_ | refine we_not ?_ | refine we_if ?_ | refine we_isN ?_ | refine we_notN ?_ | refine we_chain ?_ | refine wt_yes ?_ | refine wi_L ?_ | refine wi_T ?_ | refine wi_S ?_ | refine wi_R1 ?_ | refine wi_R2 ?_ | refine wi_R3 ?_ | refine wi_E ?_ | refine we_call ?_ | refine we_callF ?_ | refine we_bm ?_ | refine wg_sb ?_ | refine we_m1 ?_ | refine we_rev ?_ | refine wo_add ?_ | refine wo_sub ?_ | refine wo_neg ?_ | refine wo_cmp ?_ | refine wo_eqI ?_ | refine wo_neI ?_ | refine wo_eqS ?_ | refine wo_neS ?_ | refine wo_eqB ?_ | refine wo_neB ?_ | refine wo_lenL ?_ | refine wo_lenT ?_ | refine wo_lenC ?_ | refine wo_max ?_ | refine wo_min ?_ | refine wo_slL ?_ | refine wo_listC ?_ | refine wo_listL ?_ | refine wo_listT ?_ | refine wo_tupT ?_ | refine wo_tupL ?_ | refine wo_intI ?_ | refine wo_intB ?_ | refine wo_strS ?_ | refine wo_inS ?_ | refine wo_ninS ?_) | ((with_reducible apply we_var); rfl) | ((with_reducible apply ws_frz); rfl) | ((with_reducible apply ws_app); rfl) | ((with_reducible apply ws_extend); rfl) | ((with_reducible apply ws_retA); rfl) | ((with_reducible apply ws_frz0); rfl) | ((with_reducible apply wo_isT); rfl; rfl) | (refine ⟨Nat.le_of_ble_eq_true rfl, ?_⟩) | (with_reducible refine ⟨_, rfl, ?_⟩) | (with_reducible refine wg_nm (Nat.le_of_ble_eq_true rfl) ?_) | (refine ⟨⟨Nat.le_of_ble_eq_true rfl, Nat.le_of_ble_eq_true rfl⟩, ?_⟩) | (with_reducible refine Or.inl ⟨_, rfl, ?_⟩) | (with_reducible refine Or.inr ⟨_, rfl, ?_⟩))
  refine wo_slS (by omega) ?_
  rw [cut_upto1]
  generalize hB : c.take (c.length - 1) = B at bad ⊢
  have lB : B.length ≤ c.length := by rw [← hB]; simp
  have oB : okS B := fun x hx => oc x (List.mem_of_mem_take (by rw [hB]; exact hx))
  repeat (first | with_reducible (first | refine ws_seq ?_ | refine nxt_nx ?_ | refine lp_nx ?_ | refine lp_ct ?_ | refine lp_bk ?_ | refine lp_rt ?_ | refine lp_rf ?_ | refine nxt_rt ?_ | refine nxt_rf ?_ | refine nxt_bk ?_ | refine nxt_ct ?_ | refine end_nx ?_ | refine end_rt ?_ | refine end_rf ?_ | refine ws_next ?_ | refine ws_brk ?_ | refine ws_cnt ?_ | refine ws_do ?_ | refine ws_ret ?_ | refine ws_retF ?_ | refine ws_retN ?_ | refine ws_set ?_ | refine ws_acc ?_ | refine ws_par ?_ | refine ws_asg ?_ | refine ws_for ?_ | refine ws_if ?_ | refine we_2 ?_ | refine we_1 ?_ | refine we_n ?_ | refine we_3 ?_ | refine we_c ?_ | refine wo_none ?_ | refine wo_some ?_ | refine wl_cons ?_ | refine wl_nil ?_ | refine we_V ?_ | refine we_own ?_ | refine we_tup ?_ | refine wl_lst ?_ | refine wt_of ?_ | refine wt_or ?_ | refine wt_and ?_ | refine wt_not ?_ | refine we_and ?_ | refine we_or ?_ | refine we_not ?_ | refine we_if ?_ | refine we_isN ?_ | refine we_notN ?_ | refine we_chain ?_ | refine wt_yes ?_ | refine wi_L ?_ | refine wi_T ?_ | refine wi_S ?_ | refine wi_R1 ?_ | refine wi_R2 ?_ | refine wi_R3 ?_ | refine wi_E ?_ | refine we_call ?_ | refine we_callF ?_ | refine we_bm ?_ | refine wg_sb ?_ | refine we_m1 ?_ | refine we_rev ?_ | refine wo_add ?_ | refine wo_sub ?_ | refine wo_neg ?_ | refine wo_cmp ?_ | refine wo_eqI ?_ | refine wo_neI ?_ | refine wo_eqS ?_ | refine wo_neS ?_ | refine wo_eqB ?_ | refine wo_neB ?_ | refine wo_lenL ?_ | refine wo_lenT ?_ | refine wo_lenC ?_ | refine wo_max ?_ | refine wo_min ?_ | refine wo_slL ?_ | refine wo_listC ?_ | refine wo_listL ?_ | refine wo_listT ?_ | refine wo_tupT ?_ | refine wo_tupL ?_ | refine wo_intI ?_ | refine wo_intB ?_ | refine wo_strS ?_ | refine wo_inS ?_ | refine wo_ninS ?_) | ((with_reducible apply we_var); rfl) | ((with_reducible apply ws_frz); rfl) | ((with_reducible apply ws_app); rfl) | ((with_reducible apply ws_extend); rfl) | ((with_reducible apply ws_retA); rfl) | ((with_reducible apply ws_frz0); rfl) | ((with_reducible apply wo_isT); rfl; rfl) | (refine ⟨Nat.le_of_ble_eq_true rfl, ?_⟩) | (with_reducible refine ⟨_, rfl, ?_⟩) | (with_reducible refine wg_nm (Nat.le_of_ble_eq_true rfl) ?_) | (refine ⟨⟨Nat.le_of_ble_eq_true rfl, Nat.le_of_ble_eq_true rfl⟩, ?_⟩) | (with_reducible refine Or.inl ⟨_, rfl, ?_⟩) | (with_reducible refine Or.inr ⟨_, rfl, ?_⟩))
  refine wl_signs (A := sb) (fun c => rfl) (fun c => rfl) ?_
  repeat (first | with_reducible (first | refine ws_seq ?_ | refine nxt_nx ?_ | refine lp_nx ?_ | refine lp_ct ?_ | refine lp_bk ?_ | refine lp_rt ?_ | refine lp_rf ?_ | refine nxt_rt ?_ | refine nxt_rf ?_ | refine nxt_bk ?_ | refine nxt_ct ?_ | refine end_nx ?_ | refine end_rt ?_ | refine end_rf ?_ | refine ws_next ?_ | refine ws_brk ?_ | refine ws_cnt ?_ | refine ws_do ?_ | refine ws_ret ?_ | refine ws_retF ?_ | refine ws_retN ?_ | refine ws_set ?_ | refine ws_acc ?_ | refine ws_par ?_ | refine ws_asg ?_ | refine ws_for ?_ | refine ws_if ?_ | refine we_2 ?_ | refine we_1 ?_ | refine we_n ?_ | refine we_3 ?_ | refine we_c ?_ | refine wo_none ?_ | refine wo_some ?_ | refine wl_cons ?_ | refine wl_nil ?_ | refine we_V ?_ | refine we_own ?_ | refine we_tup ?_ | refine wl_lst ?_ | refine wt_of ?_ | refine wt_or ?_ | refine wt_and ?_ | refine wt_not ?_ | refine we_and ?_ | refine we_or ?_ | refine we_not ?_ | refine we_if ?_ | refine we_isN ?_ | refine we_notN ?_ | refine we_chain ?_ | refine wt_yes ?_ | refine wi_L ?_ | refine wi_T ?_ | refine wi_S ?_ | refine wi_R1 ?_ | refine wi_R2 ?_ | refine wi_R3 ?_ | refine wi_E ?_ | refine we_call ?_ | refine we_callF ?_ | refine we_bm ?_ | refine wg_sb ?_ | refine we_m1 ?_ | refine we_rev ?_ | refine wo_add ?_ | refine wo_sub ?_ | refine wo_neg ?_ | refine wo_cmp ?_ | refine wo_eqI ?_ | refine wo_neI ?_ | refine wo_eqS ?_ | refine wo_neS ?_ | refine wo_eqB ?_ | refine wo_neB ?_ | refine wo_lenL ?_ | refine wo_lenT ?_ | refine wo_lenC ?_ | refine wo_max ?_ | refine wo_min ?_ | refine wo_slL ?_ | refine wo_listC ?_ | refine wo_listL ?_ | refine wo_listT ?_ | refine wo_tupT ?_ | refine wo_tupL ?_ | refine wo_intI ?_ | refine wo_intB ?_ | refine wo_strS ?_ | refine wo_inS ?_ | refine wo_ninS ?_) | ((with_reducible apply we_var); rfl) | ((with_reducible apply ws_frz); rfl) | ((with_reducible apply ws_app); rfl) | ((with_reducible apply ws_extend); rfl) | ((with_reducible apply ws_retA); rfl) | ((with_reducible apply ws_frz0); rfl) | ((with_reducible apply wo_isT); rfl; rfl) | (refine ⟨Nat.le_of_ble_eq_true rfl, ?_⟩) | (with_reducible refine ⟨_, rfl, ?_⟩) | (with_reducible refine wg_nm (Nat.le_of_ble_eq_true rfl) ?_) | (refine ⟨⟨Nat.le_of_ble_eq_true rfl, Nat.le_of_ble_eq_true rfl⟩, ?_⟩) | (with_reducible refine Or.inl ⟨_, rfl, ?_⟩) | (with_reducible refine Or.inr ⟨_, rfl, ?_⟩))
  refine ⟨by omega, fun c => ?_, ?_⟩
  · repeat (first | with_reducible (first | refine ws_seq ?_ | refine nxt_nx ?_ | refine lp_nx ?_ | refine lp_ct ?_ | refine lp_bk ?_ | refine lp_rt ?_ | refine lp_rf ?_ | refine nxt_rt ?_ | refine nxt_rf ?_ | refine nxt_bk ?_ | refine nxt_ct ?_ | refine end_nx ?_ | refine end_rt ?_ | refine end_rf ?_ | refine ws_next ?_ | refine ws_brk ?_ | refine ws_cnt ?_ | refine ws_do ?_ | refine ws_ret ?_ | refine ws_retF ?_ | refine ws_retN ?_ | refine ws_set ?_ | refine ws_acc ?_ | refine ws_par ?_ | refine ws_asg ?_ | refine ws_for ?_ | refine ws_if ?_ | refine we_2 ?_ | refine we_1 ?_ | refine we_n ?_ | refine we_3 ?_ | refine we_c ?_ | refine wo_none ?_ | refine wo_some ?_ | refine wl_cons ?_ | refine wl_nil ?_ | refine we_V ?_ | refine we_own ?_ | refine we_tup ?_ | refine wl_lst ?_ | refine wt_of ?_ | refine wt_or ?_ | refine wt_and ?_ | refine wt_not ?_ | refine we_and ?_ | refine we_or ?_ | refine we_not ?_ | refine we_if ?_ | refine we_isN ?_ | refine we_notN ?_ | refine we_chain ?_ | refine wt_yes ?_ | refine wi_L ?_ | refine wi_T ?_ | refine wi_S ?_ | refine wi_R1 ?_ | refine wi_R2 ?_ | refine wi_R3 ?_ | refine wi_E ?_ | refine we_call ?_ | refine we_callF ?_ | refine we_bm ?_ | refine wg_sb ?_ | refine we_m1 ?_ | refine we_rev ?_ | refine wo_add ?_ | refine wo_sub ?_ | refine wo_neg ?_ | refine wo_cmp ?_ | refine wo_eqI ?_ | refine wo_neI ?_ | refine wo_eqS ?_ | refine wo_neS ?_ | refine wo_eqB ?_ | refine wo_neB ?_ | refine wo_lenL ?_ | refine wo_lenT ?_ | refine wo_lenC ?_ | refine wo_max ?_ | refine wo_min ?_ | refine wo_slL ?_ | refine wo_listC ?_ | refine wo_listL ?_ | refine wo_listT ?_ | refine wo_tupT ?_ | refine wo_tupL ?_ | refine wo_intI ?_ | refine wo_intB ?_ | refine wo_strS ?_ | refine wo_inS ?_ | refine wo_ninS ?_) | ((with_reducible apply we_var); rfl) | ((with_reducible apply ws_frz); rfl) | ((with_reducible apply ws_app); rfl) | ((with_reducible apply ws_extend); rfl) | ((with_reducible apply ws_retA); rfl) | ((with_reducible apply ws_frz0); rfl) | ((with_reducible apply wo_isT); rfl; rfl) | (refine ⟨Nat.le_of_ble_eq_true rfl, ?_⟩) | (with_reducible refine ⟨_, rfl, ?_⟩) | (with_reducible refine wg_nm (Nat.le_of_ble_eq_true rfl) ?_) | (refine ⟨⟨Nat.le_of_ble_eq_true rfl, Nat.le_of_ble_eq_true rfl⟩, ?_⟩) | (with_reducible refine Or.inl ⟨_, rfl, ?_⟩) | (with_reducible refine Or.inr ⟨_, rfl, ?_⟩))
    refine wo_addS (by decide) ?_
    repeat (first | with_reducible (first | refine ws_seq ?_ | refine nxt_nx ?_ | refine lp_nx ?_ | refine lp_ct ?_ | refine lp_bk ?_ | refine lp_rt ?_ | refine lp_rf ?_ | refine nxt_rt ?_ | refine nxt_rf ?_ | refine nxt_bk ?_ | refine nxt_ct ?_ | refine end_nx ?_ | refine end_rt ?_ | refine end_rf ?_ | refine ws_next ?_ | refine ws_brk ?_ | refine ws_cnt ?_ | refine ws_do ?_ | refine ws_ret ?_ | refine ws_retF ?_ | refine ws_retN ?_ | refine ws_set ?_ | refine ws_acc ?_ | refine ws_par ?_ | refine ws_asg ?_ | refine ws_for ?_ | refine ws_if ?_ | refine we_2 ?_ | refine we_1 ?_ | refine we_n ?_ | refine we_3 ?_ | refine we_c ?_ | refine wo_none ?_ | refine wo_some ?_ | refine wl_cons ?_ | refine wl_nil ?_ | refine we_V ?_ | refine we_own ?_ | refine we_tup ?_ | refine wl_lst ?_ | refine wt_of ?_ | refine wt_or ?_ | refine wt_and ?_ | refine wt_not ?_ | refine we_and ?_ | refine we_or ?_ | refine we_not ?_ | refine we_if ?_ | refine we_isN ?_ | refine we_notN ?_ | refine we_chain ?_ | refine wt_yes ?_ | refine wi_L ?_ | refine wi_T ?_ | refine wi_S ?_ | refine wi_R1 ?_ | refine wi_R2 ?_ | refine wi_R3 ?_ | refine wi_E ?_ | refine we_call ?_ | refine we_callF ?_ | refine we_bm ?_ | refine wg_sb ?_ | refine we_m1 ?_ | refine we_rev ?_ | refine wo_add ?_ | refine wo_sub ?_ | refine wo_neg ?_ | refine wo_cmp ?_ | refine wo_eqI ?_ | refine wo_neI ?_ | refine wo_eqS ?_ | refine wo_neS ?_ | refine wo_eqB ?_ | refine wo_neB ?_ | refine wo_lenL ?_ | refine wo_lenT ?_ | refine wo_lenC ?_ | refine wo_max ?_ | refine wo_min ?_ | refine wo_slL ?_ | refine wo_listC ?_ | refine wo_listL ?_ | refine wo_listT ?_ | refine wo_tupT ?_ | refine wo_tupL ?_ | refine wo_intI ?_ | refine wo_intB ?_ | refine wo_strS ?_ | refine wo_inS ?_ | refine wo_ninS ?_) | ((with_reducible apply we_var); rfl) | ((with_reducible apply ws_frz); rfl) | ((with_reducible apply ws_app); rfl) | ((with_reducible apply ws_extend); rfl) | ((with_reducible apply ws_retA); rfl) | ((with_reducible apply ws_frz0); rfl) | ((with_reducible apply wo_isT); rfl; rfl) | (refine ⟨Nat.le_of_ble_eq_true rfl, ?_⟩) | (with_reducible refine ⟨_, rfl, ?_⟩) | (with_reducible refine wg_nm (Nat.le_of_ble_eq_true rfl) ?_) | (refine ⟨⟨Nat.le_of_ble_eq_true rfl, Nat.le_of_ble_eq_true rfl⟩, ?_⟩) | (with_reducible refine Or.inl ⟨_, rfl, ?_⟩) | (with_reducible refine Or.inr ⟨_, rfl, ?_⟩))
    exact ⟨rfl, rfl⟩
  repeat (first | with_reducible (first | refine ws_seq ?_ | refine nxt_nx ?_ | refine lp_nx ?_ | refine lp_ct ?_ | refine lp_bk ?_ | refine lp_rt ?_ | refine lp_rf ?_ | refine nxt_rt ?_ | refine nxt_rf ?_ | refine nxt_bk ?_ | refine nxt_ct ?_ | refine end_nx ?_ | refine end_rt ?_ | refine end_rf ?_ | refine ws_next ?_ | refine ws_brk ?_ | refine ws_cnt ?_ | refine ws_do ?_ | refine ws_ret ?_ | refine ws_retF ?_ | refine ws_retN ?_ | refine ws_set ?_ | refine ws_acc ?_ | refine ws_par ?_ | refine ws_asg ?_ | refine ws_for ?_ | refine ws_if ?_ | refine we_2 ?_ | refine we_1 ?_ | refine we_n ?_ | refine we_3 ?_ | refine we_c ?_ | refine wo_none ?_ | refine wo_some ?_ | refine wl_cons ?_ | refine wl_nil ?_ | refine we_V ?_ | refine we_own ?_ | refine we_tup ?_ | refine wl_lst ?_ | refine wt_of ?_ | refine wt_or ?_ | refine wt_and ?_ | refine wt_not ?_ | refine we_and ?_ | refine we_or ?_ | refine we_not ?_ | refine we_if ?_ | refine we_isN ?_ | refine we_notN ?_ | refine we_chain ?_ | refine wt_yes ?_ | refine wi_L ?_ | refine wi_T ?_ | refine wi_S ?_ | refine wi_R1 ?_ | refine wi_R2 ?_ | refine wi_R3 ?_ | refine wi_E ?_ | refine we_call ?_ | refine we_callF ?_ | refine we_bm ?_ | refine wg_sb ?_ | refine we_m1 ?_ | refine we_rev ?_ | refine wo_add ?_ | refine wo_sub ?_ | refine wo_neg ?_ | refine wo_cmp ?_ | refine wo_eqI ?_ | refine wo_neI ?_ | refine wo_eqS ?_ | refine wo_neS ?_ | refine wo_eqB ?_ | refine wo_neB ?_ | refine wo_lenL ?_ | refine wo_lenT ?_ | refine wo_lenC ?_ | refine wo_max ?_ | refine wo_min ?_ | refine wo_slL ?_ | refine wo_listC ?_ | refine wo_listL ?_ | refine wo_listT ?_ | refine wo_tupT ?_ | refine wo_tupL ?_ | refine wo_intI ?_ | refine wo_intB ?_ | refine wo_strS ?_ | refine wo_inS ?_ | refine wo_ninS ?_) | ((with_reducible apply we_var); rfl) | ((with_reducible apply ws_frz); rfl) | ((with_reducible apply ws_app); rfl) | ((with_reducible apply ws_extend); rfl) | ((with_reducible apply ws_retA); rfl) | ((with_reducible apply ws_frz0); rfl) | ((with_reducible apply wo_isT); rfl; rfl) | (refine ⟨Nat.le_of_ble_eq_true rfl, ?_⟩) | (with_reducible refine ⟨_, rfl, ?_⟩) | (with_reducible refine wg_nm (Nat.le_of_ble_eq_true rfl) ?_) | (refine ⟨⟨Nat.le_of_ble_eq_true rfl, Nat.le_of_ble_eq_true rfl⟩, ?_⟩) | (with_reducible refine Or.inl ⟨_, rfl, ?_⟩) | (with_reducible refine Or.inr ⟨_, rfl, ?_⟩))
  refine wo_neNil (okS_filter oB) ?_
  rw [filt_empty]
  repeat (first | with_reducible (first | refine ws_seq ?_ | refine nxt_nx ?_ | refine lp_nx ?_ | refine lp_ct ?_ | refine lp_bk ?_ | refine lp_rt ?_ | refine lp_rf ?_ | refine nxt_rt ?_ | refine nxt_rf ?_ | refine nxt_bk ?_ | refine nxt_ct ?_ | refine end_nx ?_ | refine end_rt ?_ | refine end_rf ?_ | refine ws_next ?_ | refine ws_brk ?_ | refine ws_cnt ?_ | refine ws_do ?_ | refine ws_ret ?_ | refine ws_retF ?_ | refine ws_retN ?_ | refine ws_set ?_ | refine ws_acc ?_ | refine ws_par ?_ | refine ws_asg ?_ | refine ws_for ?_ | refine ws_if ?_ | refine we_2 ?_ | refine we_1 ?_ | refine we_n ?_ | refine we_3 ?_ | refine we_c ?_ | refine wo_none ?_ | refine wo_some ?_ | refine wl_cons ?_ | refine wl_nil ?_ | refine we_V ?_ | refine we_own ?_ | refine we_tup ?_ | refine wl_lst ?_ | refine wt_of ?_ | refine wt_or ?_ | refine wt_and ?_ | refine wt_not ?_ | refine we_and ?_ | refine we_or ?_ | refine we_not ?_ | refine we_if ?_ | refine we_isN ?_ | refine we_notN ?_ | refine we_chain ?_ | refine wt_yes ?_ | refine wi_L ?_ | refine wi_T ?_ | refine wi_S ?_ | refine wi_R1 ?_ | refine wi_R2 ?_ | refine wi_R3 ?_ | refine wi_E ?_ | refine we_call ?_ | refine we_callF ?_ | refine we_bm ?_ | refine wg_sb ?_ | refine we_m1 ?_ | refine we_rev ?_ | refine wo_add ?_ | refine wo_sub ?_ | refine wo_neg ?_ | refine wo_cmp ?_ | refine wo_eqI ?_ | refine wo_neI ?_ | refine wo_eqS ?_ | refine wo_neS ?_ | refine wo_eqB ?_ | refine wo_neB ?_ | refine wo_lenL ?_ | refine wo_lenT ?_ | refine wo_lenC ?_ | refine wo_max ?_ | refine wo_min ?_ | refine wo_slL ?_ | refine wo_listC ?_ | refine wo_listL ?_ | refine wo_listT ?_ | refine wo_tupT ?_ | refine wo_tupL ?_ | refine wo_intI ?_ | refine wo_intB ?_ | refine wo_strS ?_ | refine wo_inS ?_ | refine wo_ninS ?_) | ((with_reducible apply we_var); rfl) | ((with_reducible apply ws_frz); rfl) | ((with_reducible apply ws_app); rfl) | ((with_reducible apply ws_extend); rfl) | ((with_reducible apply ws_retA); rfl) | ((with_reducible apply ws_frz0); rfl) | ((with_reducible apply wo_isT); rfl; rfl) | (refine ⟨Nat.le_of_ble_eq_true rfl, ?_⟩) | (with_reducible refine ⟨_, rfl, ?_⟩) | (with_reducible refine wg_nm (Nat.le_of_ble_eq_true rfl) ?_) | (refine ⟨⟨Nat.le_of_ble_eq_true rfl, Nat.le_of_ble_eq_true rfl⟩, ?_⟩) | (with_reducible refine Or.inl ⟨_, rfl, ?_⟩) | (with_reducible refine Or.inr ⟨_, rfl, ?_⟩))
  refine ⟨fun z => ?_, fun z => ?_⟩
  · repeat (first | with_reducible (first | refine ws_seq ?_ | refine nxt_nx ?_ | refine lp_nx ?_ | refine lp_ct ?_ | refine lp_bk ?_ | refine lp_rt ?_ | refine lp_rf ?_ | refine nxt_rt ?_ | refine nxt_rf ?_ | refine nxt_bk ?_ | refine nxt_ct ?_ | refine end_nx ?_ | refine end_rt ?_ | refine end_rf ?_ | refine ws_next ?_ | refine ws_brk ?_ | refine ws_cnt ?_ | refine ws_do ?_ | refine ws_ret ?_ | refine ws_retF ?_ | refine ws_retN ?_ | refine ws_set ?_ | refine ws_acc ?_ | refine ws_par ?_ | refine ws_asg ?_ | refine ws_for ?_ | refine ws_if ?_ | refine we_2 ?_ | refine we_1 ?_ | refine we_n ?_ | refine we_3 ?_ | refine we_c ?_ | refine wo_none ?_ | refine wo_some ?_ | refine wl_cons ?_ | refine wl_nil ?_ | refine we_V ?_ | refine we_own ?_ | refine we_tup ?_ | refine wl_lst ?_ | refine wt_of ?_ | refine wt_or ?_ | refine wt_and ?_ | refine wt_not ?_ | refine we_and ?_ | refine we_or ?_ | refine we_not ?_ | refine we_if ?_ | refine we_isN ?_ | refine we_notN ?_ | refine we_chain ?_ | refine wt_yes ?_ | refine wi_L ?_ | refine wi_T ?_ | refine wi_S ?_ | refine wi_R1 ?_ | refine wi_R2 ?_ | refine wi_R3 ?_ | refine wi_E ?_ | refine we_call ?_ | refine we_callF ?_ | refine we_bm ?_ | refine wg_sb ?_ | refine we_m1 ?_ | refine we_rev ?_ | refine wo_add ?_ | refine wo_sub ?_ | refine wo_neg ?_ | refine wo_cmp ?_ | refine wo_eqI ?_ | refine wo_neI ?_ | refine wo_eqS ?_ | refine wo_neS ?_ | refine wo_eqB ?_ | refine wo_neB ?_ | refine wo_lenL ?_ | refine wo_lenT ?_ | refine wo_lenC ?_ | refine wo_max ?_ | refine wo_min ?_ | refine wo_slL ?_ | refine wo_listC ?_ | refine wo_listL ?_ | refine wo_listT ?_ | refine wo_tupT ?_ | refine wo_tupL ?_ | refine wo_intI ?_ | refine wo_intB ?_ | refine wo_strS ?_ | refine wo_inS ?_ | refine wo_ninS ?_) | ((with_reducible apply we_var); rfl) | ((with_reducible apply ws_frz); rfl) | ((with_reducible apply ws_app); rfl) | ((with_reducible apply ws_extend); rfl) | ((with_reducible apply ws_retA); rfl) | ((with_reducible apply ws_frz0); rfl) | ((with_reducible apply wo_isT); rfl; rfl) | (refine ⟨Nat.le_of_ble_eq_true rfl, ?_⟩) | (with_reducible refine ⟨_, rfl, ?_⟩) | (with_reducible refine wg_nm (Nat.le_of_ble_eq_true rfl) ?_) | (refine ⟨⟨Nat.le_of_ble_eq_true rfl, Nat.le_of_ble_eq_true rfl⟩, ?_⟩) | (with_reducible refine Or.inl ⟨_, rfl, ?_⟩) | (with_reducible refine Or.inr ⟨_, rfl, ?_⟩))
    refine bad (ρ := []) rfl fun q => ?_
    rw [decide_eq_true q.2.1] at z
    cases z
  have z3 : ∀ x ∈ B, x ∈ sb := by
    by_cases q : ∀ x ∈ B, x ∈ sb
    · exact q
    · rw [decide_eq_false q] at z
      cases z
  repeat (first | with_reducible (first | refine ws_seq ?_ | refine nxt_nx ?_ | refine lp_nx ?_ | refine lp_ct ?_ | refine lp_bk ?_ | refine lp_rt ?_ | refine lp_rf ?_ | refine nxt_rt ?_ | refine nxt_rf ?_ | refine nxt_bk ?_ | refine nxt_ct ?_ | refine end_nx ?_ | refine end_rt ?_ | refine end_rf ?_ | refine ws_next ?_ | refine ws_brk ?_ | refine ws_cnt ?_ | refine ws_do ?_ | refine ws_ret ?_ | refine ws_retF ?_ | refine ws_retN ?_ | refine ws_set ?_ | refine ws_acc ?_ | refine ws_par ?_ | refine ws_asg ?_ | refine ws_for ?_ | refine ws_if ?_ | refine we_2 ?_ | refine we_1 ?_ | refine we_n ?_ | refine we_3 ?_ | refine we_c ?_ | refine wo_none ?_ | refine wo_some ?_ | refine wl_cons ?_ | refine wl_nil ?_ | refine we_V ?_ | refine we_own ?_ | refine we_tup ?_ | refine wl_lst ?_ | refine wt_of ?_ | refine wt_or ?_ | refine wt_and ?_ | refine wt_not ?_ | refine we_and ?_ | refine we_or ?_ | refine we_not ?_ | refine we_if ?_ | refine we_isN ?_ | refine we_notN ?_ | refine we_chain ?_ | refine wt_yes ?_ | refine wi_L ?_ | refine wi_T ?_ | refine wi_S ?_ | refine wi_R1 ?_ | refine wi_R2 ?_ | refine wi_R3 ?_ | refine wi_E ?_ | refine we_call ?_ | refine we_callF ?_ | refine we_bm ?_ | refine wg_sb ?_ | refine we_m1 ?_ | refine we_rev ?_ | refine wo_add ?_ | refine wo_sub ?_ | refine wo_neg ?_ | refine wo_cmp ?_ | refine wo_eqI ?_ | refine wo_neI ?_ | refine wo_eqS ?_ | refine wo_neS ?_ | refine wo_eqB ?_ | refine wo_neB ?_ | refine wo_lenL ?_ | refine wo_lenT ?_ | refine wo_lenC ?_ | refine wo_max ?_ | refine wo_min ?_ | refine wo_slL ?_ | refine wo_listC ?_ | refine wo_listL ?_ | refine wo_listT ?_ | refine wo_tupT ?_ | refine wo_tupL ?_ | refine wo_intI ?_ | refine wo_intB ?_ | refine wo_strS ?_ | refine wo_inS ?_ | refine wo_ninS ?_) | ((with_reducible apply we_var); rfl) | ((with_reducible apply ws_frz); rfl) | ((with_reducible apply ws_app); rfl) | ((with_reducible apply ws_extend); rfl) | ((with_reducible apply ws_retA); rfl) | ((with_reducible apply ws_frz0); rfl) | ((with_reducible apply wo_isT); rfl; rfl) | (refine ⟨Nat.le_of_ble_eq_true rfl, ?_⟩) | (with_reducible refine ⟨_, rfl, ?_⟩) | (with_reducible refine wg_nm (Nat.le_of_ble_eq_true rfl) ?_) | (refine ⟨⟨Nat.le_of_ble_eq_true rfl, Nat.le_of_ble_eq_true rfl⟩, ?_⟩) | (with_reducible refine Or.inl ⟨_, rfl, ?_⟩) | (with_reducible refine Or.inr ⟨_, rfl, ?_⟩))
  refine wo_ixL (d := .str a) (by decide) rfl ?_
  repeat (first | with_reducible (first | refine ws_seq ?_ | refine nxt_nx ?_ | refine lp_nx ?_ | refine lp_ct ?_ | refine lp_bk ?_ | refine lp_rt ?_ | refine lp_rf ?_ | refine nxt_rt ?_ | refine nxt_rf ?_ | refine nxt_bk ?_ | refine nxt_ct ?_ | refine end_nx ?_ | refine end_rt ?_ | refine end_rf ?_ | refine ws_next ?_ | refine ws_brk ?_ | refine ws_cnt ?_ | refine ws_do ?_ | refine ws_ret ?_ | refine ws_retF ?_ | refine ws_retN ?_ | refine ws_set ?_ | refine ws_acc ?_ | refine ws_par ?_ | refine ws_asg ?_ | refine ws_for ?_ | refine ws_if ?_ | refine we_2 ?_ | refine we_1 ?_ | refine we_n ?_ | refine we_3 ?_ | refine we_c ?_ | refine wo_none ?_ | refine wo_some ?_ | refine wl_cons ?_ | refine wl_nil ?_ | refine we_V ?_ | refine we_own ?_ | refine we_tup ?_ | refine wl_lst ?_ | refine wt_of ?_ | refine wt_or ?_ | refine wt_and ?_ | refine wt_not ?_ | refine we_and ?_ | refine we_or ?_ | refine we_not ?_ | refine we_if ?_ | refine we_isN ?_ | refine we_notN ?_ | refine we_chain ?_ | refine wt_yes ?_ | refine wi_L ?_ | refine wi_T ?_ | refine wi_S ?_ | refine wi_R1 ?_ | refine wi_R2 ?_ | refine wi_R3 ?_ | refine wi_E ?_ | refine we_call ?_ | refine we_callF ?_ | refine we_bm ?_ | refine wg_sb ?_ | refine we_m1 ?_ | refine we_rev ?_ | refine wo_add ?_ | refine wo_sub ?_ | refine wo_neg ?_ | refine wo_cmp ?_ | refine wo_eqI ?_ | refine wo_neI ?_ | refine wo_eqS ?_ | refine wo_neS ?_ | refine wo_eqB ?_ | refine wo_neB ?_ | refine wo_lenL ?_ | refine wo_lenT ?_ | refine wo_lenC ?_ | refine wo_max ?_ | refine wo_min ?_ | refine wo_slL ?_ | refine wo_listC ?_ | refine wo_listL ?_ | refine wo_listT ?_ | refine wo_tupT ?_ | refine wo_tupL ?_ | refine wo_intI ?_ | refine wo_intB ?_ | refine wo_strS ?_ | refine wo_inS ?_ | refine wo_ninS ?_) | ((with_reducible apply we_var); rfl) | ((with_reducible apply ws_frz); rfl) | ((with_reducible apply ws_app); rfl) | ((with_reducible apply ws_extend); rfl) | ((with_reducible apply ws_retA); rfl) | ((with_reducible apply ws_frz0); rfl) | ((with_reducible apply wo_isT); rfl; rfl) | (refine ⟨Nat.le_of_ble_eq_true rfl, ?_⟩) | (with_reducible refine ⟨_, rfl, ?_⟩) | (with_reducible refine wg_nm (Nat.le_of_ble_eq_true rfl) ?_) | (refine ⟨⟨Nat.le_of_ble_eq_true rfl, Nat.le_of_ble_eq_true rfl⟩, ?_⟩) | (with_reducible refine Or.inl ⟨_, rfl, ?_⟩) | (with_reducible refine Or.inr ⟨_, rfl, ?_⟩))
  refine (number_ok (by omega) oa).mono fun o S1 h => ?_
  obtain ⟨rfl, rfl⟩ := h
  repeat (first | with_reducible (first | refine ws_seq ?_ | refine nxt_nx ?_ | refine lp_nx ?_ | refine lp_ct ?_ | refine lp_bk ?_ | refine lp_rt ?_ | refine lp_rf ?_ | refine nxt_rt ?_ | refine nxt_rf ?_ | refine nxt_bk ?_ | refine nxt_ct ?_ | refine end_nx ?_ | refine end_rt ?_ | refine end_rf ?_ | refine ws_next ?_ | refine ws_brk ?_ | refine ws_cnt ?_ | refine ws_do ?_ | refine ws_ret ?_ | refine ws_retF ?_ | refine ws_retN ?_ | refine ws_set ?_ | refine ws_acc ?_ | refine ws_par ?_ | refine ws_asg ?_ | refine ws_for ?_ | refine ws_if ?_ | refine we_2 ?_ | refine we_1 ?_ | refine we_n ?_ | refine we_3 ?_ | refine we_c ?_ | refine wo_none ?_ | refine wo_some ?_ | refine wl_cons ?_ | refine wl_nil ?_ | refine we_V ?_ | refine we_own ?_ | refine we_tup ?_ | refine wl_lst ?_ | refine wt_of ?_ | refine wt_or ?_ | refine wt_and ?_ | refine wt_not ?_ | refine we_and ?_ | refine we_or ?_ | refine we_not ?_ | refine we_if ?_ | refine we_isN ?_ | refine we_notN ?_ | refine we_chain ?_ | refine wt_yes ?_ | refine wi_L ?_ | refine wi_T ?_ | refine wi_S ?_ | refine wi_R1 ?_ | refine wi_R2 ?_ | refine wi_R3 ?_ | refine wi_E ?_ | refine we_call ?_ | refine we_callF ?_ | refine we_bm ?_ | refine wg_sb ?_ | refine we_m1 ?_ | refine we_rev ?_ | refine wo_add ?_ | refine wo_sub ?_ | refine wo_neg ?_ | refine wo_cmp ?_ | refine wo_eqI ?_ | refine wo_neI ?_ | refine wo_eqS ?_ | refine wo_neS ?_ | refine wo_eqB ?_ | refine wo_neB ?_ | refine wo_lenL ?_ | refine wo_lenT ?_ | refine wo_lenC ?_ | refine wo_max ?_ | refine wo_min ?_ | refine wo_slL ?_ | refine wo_listC ?_ | refine wo_listL ?_ | refine wo_listT ?_ | refine wo_tupT ?_ | refine wo_tupL ?_ | refine wo_intI ?_ | refine wo_intB ?_ | refine wo_strS ?_ | refine wo_inS ?_ | refine wo_ninS ?_) | ((with_reducible apply we_var); rfl) | ((with_reducible apply ws_frz); rfl) | ((with_reducible apply ws_app); rfl) | ((with_reducible apply ws_extend); rfl) | ((with_reducible apply ws_retA); rfl) | ((with_reducible apply ws_frz0); rfl) | ((with_reducible apply wo_isT); rfl; rfl) | (refine ⟨Nat.le_of_ble_eq_true rfl, ?_⟩) | (with_reducible refine ⟨_, rfl, ?_⟩) | (with_reducible refine wg_nm (Nat.le_of_ble_eq_true rfl) ?_) | (refine ⟨⟨Nat.le_of_ble_eq_true rfl, Nat.le_of_ble_eq_true rfl⟩, ?_⟩) | (with_reducible refine Or.inl ⟨_, rfl, ?_⟩) | (with_reducible refine Or.inr ⟨_, rfl, ?_⟩))
  refine wo_len (by omega) ?_
  refine num_ne ?_
  repeat (first | with_reducible (first | refine ws_seq ?_ | refine nxt_nx ?_ | refine lp_nx ?_ | refine lp_ct ?_ | refine lp_bk ?_ | refine lp_rt ?_ | refine lp_rf ?_ | refine nxt_rt ?_ | refine nxt_rf ?_ | refine nxt_bk ?_ | refine nxt_ct ?_ | refine end_nx ?_ | refine end_rt ?_ | refine end_rf ?_ | refine ws_next ?_ | refine ws_brk ?_ | refine ws_cnt ?_ | refine ws_do ?_ | refine ws_ret ?_ | refine ws_retF ?_ | refine ws_retN ?_ | refine ws_set ?_ | refine ws_acc ?_ | refine ws_par ?_ | refine ws_asg ?_ | refine ws_for ?_ | refine ws_if ?_ | refine we_2 ?_ | refine we_1 ?_ | refine we_n ?_ | refine we_3 ?_ | refine we_c ?_ | refine wo_none ?_ | refine wo_some ?_ | refine wl_cons ?_ | refine wl_nil ?_ | refine we_V ?_ | refine we_own ?_ | refine we_tup ?_ | refine wl_lst ?_ | refine wt_of ?_ | refine wt_or ?_ | refine wt_and ?_ | refine wt_not ?_ | refine we_and ?_ | refine we_or ?_ | refine we_not ?_ | refine we_if ?_ | refine we_isN ?_ | refine we_notN ?_ | refine we_chain ?_ | refine wt_yes ?_ | refine wi_L ?_ | refine wi_T ?_ | refine wi_S ?_ | refine wi_R1 ?_ | refine wi_R2 ?_ | refine wi_R3 ?_ | refine wi_E ?_ | refine we_call ?_ | refine we_callF ?_ | refine we_bm ?_ | refine wg_sb ?_ | refine we_m1 ?_ | refine we_rev ?_ | refine wo_add ?_ | refine wo_sub ?_ | refine wo_neg ?_ | refine wo_cmp ?_ | refine wo_eqI ?_ | refine wo_neI ?_ | refine wo_eqS ?_ | refine wo_neS ?_ | refine wo_eqB ?_ | refine wo_neB ?_ | refine wo_lenL ?_ | refine wo_lenT ?_ | refine wo_lenC ?_ | refine wo_max ?_ | refine wo_min ?_ | refine wo_slL ?_ | refine wo_listC ?_ | refine wo_listL ?_ | refine wo_listT ?_ | refine wo_tupT ?_ | refine wo_tupL ?_ | refine wo_intI ?_ | refine wo_intB ?_ | refine wo_strS ?_ | refine wo_inS ?_ | refine wo_ninS ?_) | ((with_reducible apply we_var); rfl) | ((with_reducible apply ws_frz); rfl) | ((with_reducible apply ws_app); rfl) | ((with_reducible apply ws_extend); rfl) | ((with_reducible apply ws_retA); rfl) | ((with_reducible apply ws_frz0); rfl) | ((with_reducible apply wo_isT); rfl; rfl) | (refine ⟨Nat.le_of_ble_eq_true rfl, ?_⟩) | (with_reducible refine ⟨_, rfl, ?_⟩) | (with_reducible refine wg_nm (Nat.le_of_ble_eq_true rfl) ?_) | (refine ⟨⟨Nat.le_of_ble_eq_true rfl, Nat.le_of_ble_eq_true rfl⟩, ?_⟩) | (with_reducible refine Or.inl ⟨_, rfl, ?_⟩) | (with_reducible refine Or.inr ⟨_, rfl, ?_⟩))
  refine ⟨fun z => ?_, fun z => ?_⟩
  · refine ⟨fun _ => ?_, fun q => nomatch q⟩
    repeat (first | with_reducible (first | refine ws_seq ?_ | refine nxt_nx ?_ | refine lp_nx ?_ | refine lp_ct ?_ | refine lp_bk ?_ | refine lp_rt ?_ | refine lp_rf ?_ | refine nxt_rt ?_ | refine nxt_rf ?_ | refine nxt_bk ?_ | refine nxt_ct ?_ | refine end_nx ?_ | refine end_rt ?_ | refine end_rf ?_ | refine ws_next ?_ | refine ws_brk ?_ | refine ws_cnt ?_ | refine ws_do ?_ | refine ws_ret ?_ | refine ws_retF ?_ | refine ws_retN ?_ | refine ws_set ?_ | refine ws_acc ?_ | refine ws_par ?_ | refine ws_asg ?_ | refine ws_for ?_ | refine ws_if ?_ | refine we_2 ?_ | refine we_1 ?_ | refine we_n ?_ | refine we_3 ?_ | refine we_c ?_ | refine wo_none ?_ | refine wo_some ?_ | refine wl_cons ?_ | refine wl_nil ?_ | refine we_V ?_ | refine we_own ?_ | refine we_tup ?_ | refine wl_lst ?_ | refine wt_of ?_ | refine wt_or ?_ | refine wt_and ?_ | refine wt_not ?_ | refine we_and ?_ | refine we_or ?_ | refine we_not ?_ | refine we_if ?_ | refine we_isN ?_ | refine we_notN ?_ | refine we_chain ?_ | refine wt_yes ?_ | refine wi_L ?_ | refine wi_T ?_ | refine wi_S ?_ | refine wi_R1 ?_ | refine wi_R2 ?_ | refine wi_R3 ?_ | refine wi_E ?_ | refine we_call ?_ | refine we_callF ?_ | refine we_bm ?_ | refine wg_sb ?_ | refine we_m1 ?_ | refine we_rev ?_ | refine wo_add ?_ | refine wo_sub ?_ | refine wo_neg ?_ | refine wo_cmp ?_ | refine wo_eqI ?_ | refine wo_neI ?_ | refine wo_eqS ?_ | refine wo_neS ?_ | refine wo_eqB ?_ | refine wo_neB ?_ | refine wo_lenL ?_ | refine wo_lenT ?_ | refine wo_lenC ?_ | refine wo_max ?_ | refine wo_min ?_ | refine wo_slL ?_ | refine wo_listC ?_ | refine wo_listL ?_ | refine wo_listT ?_ | refine wo_tupT ?_ | refine wo_tupL ?_ | refine wo_intI ?_ | refine wo_intB ?_ | refine wo_strS ?_ | refine wo_inS ?_ | refine wo_ninS ?_) | ((with_reducible apply we_var); rfl) | ((with_reducible apply ws_frz); rfl) | ((with_reducible apply ws_app); rfl) | ((with_reducible apply ws_extend); rfl) | ((with_reducible apply ws_retA); rfl) | ((with_reducible apply ws_frz0); rfl) | ((with_reducible apply wo_isT); rfl; rfl) | (refine ⟨Nat.le_of_ble_eq_true rfl, ?_⟩) | (with_reducible refine ⟨_, rfl, ?_⟩) | (with_reducible refine wg_nm (Nat.le_of_ble_eq_true rfl) ?_) | (refine ⟨⟨Nat.le_of_ble_eq_true rfl, Nat.le_of_ble_eq_true rfl⟩, ?_⟩) | (with_reducible refine Or.inl ⟨_, rfl, ?_⟩) | (with_reducible refine Or.inr ⟨_, rfl, ?_⟩))
    refine bad (ρ := []) rfl fun q => ?_
    rw [decide_eq_true q.2.2.1] at z
    cases z
  have z4 : numV a = some B.length := by
    by_cases q : numV a = some B.length
    · exact q
    · rw [decide_eq_false q] at z
      cases z
  repeat (first | with_reducible (first | refine ws_seq ?_ | refine nxt_nx ?_ | refine lp_nx ?_ | refine lp_ct ?_ | refine lp_bk ?_ | refine lp_rt ?_ | refine lp_rf ?_ | refine nxt_rt ?_ | refine nxt_rf ?_ | refine nxt_bk ?_ | refine nxt_ct ?_ | refine end_nx ?_ | refine end_rt ?_ | refine end_rf ?_ | refine ws_next ?_ | refine ws_brk ?_ | refine ws_cnt ?_ | refine ws_do ?_ | refine ws_ret ?_ | refine ws_retF ?_ | refine ws_retN ?_ | refine ws_set ?_ | refine ws_acc ?_ | refine ws_par ?_ | refine ws_asg ?_ | refine ws_for ?_ | refine ws_if ?_ | refine we_2 ?_ | refine we_1 ?_ | refine we_n ?_ | refine we_3 ?_ | refine we_c ?_ | refine wo_none ?_ | refine wo_some ?_ | refine wl_cons ?_ | refine wl_nil ?_ | refine we_V ?_ | refine we_own ?_ | refine we_tup ?_ | refine wl_lst ?_ | refine wt_of ?_ | refine wt_or ?_ | refine wt_and ?_ | refine wt_not ?_ | refine we_and ?_ | refine we_or ?_ | refine we_not ?_ | refine we_if ?_ | refine we_isN ?_ | refine we_notN ?_ | refine we_chain ?_ | refine wt_yes ?_ | refine wi_L ?_ | refine wi_T ?_ | refine wi_S ?_ | refine wi_R1 ?_ | refine wi_R2 ?_ | refine wi_R3 ?_ | refine wi_E ?_ | refine we_call ?_ | refine we_callF ?_ | refine we_bm ?_ | refine wg_sb ?_ | refine we_m1 ?_ | refine we_rev ?_ | refine wo_add ?_ | refine wo_sub ?_ | refine wo_neg ?_ | refine wo_cmp ?_ | refine wo_eqI ?_ | refine wo_neI ?_ | refine wo_eqS ?_ | refine wo_neS ?_ | refine wo_eqB ?_ | refine wo_neB ?_ | refine wo_lenL ?_ | refine wo_lenT ?_ | refine wo_lenC ?_ | refine wo_max ?_ | refine wo_min ?_ | refine wo_slL ?_ | refine wo_listC ?_ | refine wo_listL ?_ | refine wo_listT ?_ | refine wo_tupT ?_ | refine wo_tupL ?_ | refine wo_intI ?_ | refine wo_intB ?_ | refine wo_strS ?_ | refine wo_inS ?_ | refine wo_ninS ?_) | ((with_reducible apply we_var); rfl) | ((with_reducible apply ws_frz); rfl) | ((with_reducible apply ws_app); rfl) | ((with_reducible apply ws_extend); rfl) | ((with_reducible apply ws_retA); rfl) | ((with_reducible apply ws_frz0); rfl) | ((with_reducible apply wo_isT); rfl; rfl) | (refine ⟨Nat.le_of_ble_eq_true rfl, ?_⟩) | (with_reducible refine ⟨_, rfl, ?_⟩) | (with_reducible refine wg_nm (Nat.le_of_ble_eq_true rfl) ?_) | (refine ⟨⟨Nat.le_of_ble_eq_true rfl, Nat.le_of_ble_eq_true rfl⟩, ?_⟩) | (with_reducible refine Or.inl ⟨_, rfl, ?_⟩) | (with_reducible refine Or.inr ⟨_, rfl, ?_⟩))
  refine wo_ixL (d := .str b) (by decide) rfl ?_
  repeat (first | with_reducible (first | refine ws_seq ?_ | refine nxt_nx ?_ | refine lp_nx ?_ | refine lp_ct ?_ | refine lp_bk ?_ | refine lp_rt ?_ | refine lp_rf ?_ | refine nxt_rt ?_ | refine nxt_rf ?_ | refine nxt_bk ?_ | refine nxt_ct ?_ | refine end_nx ?_ | refine end_rt ?_ | refine end_rf ?_ | refine ws_next ?_ | refine ws_brk ?_ | refine ws_cnt ?_ | refine ws_do ?_ | refine ws_ret ?_ | refine ws_retF ?_ | refine ws_retN ?_ | refine ws_set ?_ | refine ws_acc ?_ | refine ws_par ?_ | refine ws_asg ?_ | refine ws_for ?_ | refine ws_if ?_ | refine we_2 ?_ | refine we_1 ?_ | refine we_n ?_ | refine we_3 ?_ | refine we_c ?_ | refine wo_none ?_ | refine wo_some ?_ | refine wl_cons ?_ | refine wl_nil ?_ | refine we_V ?_ | refine we_own ?_ | refine we_tup ?_ | refine wl_lst ?_ | refine wt_of ?_ | refine wt_or ?_ | refine wt_and ?_ | refine wt_not ?_ | refine we_and ?_ | refine we_or ?_ | refine we_not ?_ | refine we_if ?_ | refine we_isN ?_ | refine we_notN ?_ | refine we_chain ?_ | refine wt_yes ?_ | refine wi_L ?_ | refine wi_T ?_ | refine wi_S ?_ | refine wi_R1 ?_ | refine wi_R2 ?_ | refine wi_R3 ?_ | refine wi_E ?_ | refine we_call ?_ | refine we_callF ?_ | refine we_bm ?_ | refine wg_sb ?_ | refine we_m1 ?_ | refine we_rev ?_ | refine wo_add ?_ | refine wo_sub ?_ | refine wo_neg ?_ | refine wo_cmp ?_ | refine wo_eqI ?_ | refine wo_neI ?_ | refine wo_eqS ?_ | refine wo_neS ?_ | refine wo_eqB ?_ | refine wo_neB ?_ | refine wo_lenL ?_ | refine wo_lenT ?_ | refine wo_lenC ?_ | refine wo_max ?_ | refine wo_min ?_ | refine wo_slL ?_ | refine wo_listC ?_ | refine wo_listL ?_ | refine wo_listT ?_ | refine wo_tupT ?_ | refine wo_tupL ?_ | refine wo_intI ?_ | refine wo_intB ?_ | refine wo_strS ?_ | refine wo_inS ?_ | refine wo_ninS ?_) | ((with_reducible apply we_var); rfl) | ((with_reducible apply ws_frz); rfl) | ((with_reducible apply ws_app); rfl) | ((with_reducible apply ws_extend); rfl) | ((with_reducible apply ws_retA); rfl) | ((with_reducible apply ws_frz0); rfl) | ((with_reducible apply wo_isT); rfl; rfl) | (refine ⟨Nat.le_of_ble_eq_true rfl, ?_⟩) | (with_reducible refine ⟨_, rfl, ?_⟩) | (with_reducible refine wg_nm (Nat.le_of_ble_eq_true rfl) ?_) | (refine ⟨⟨Nat.le_of_ble_eq_true rfl, Nat.le_of_ble_eq_true rfl⟩, ?_⟩) | (with_reducible refine Or.inl ⟨_, rfl, ?_⟩) | (with_reducible refine Or.inr ⟨_, rfl, ?_⟩))
  refine (number_ok (by omega) ob).mono fun o S1 h => ?_
  obtain ⟨rfl, rfl⟩ := h
  repeat (first | with_reducible (first | refine ws_seq ?_ | refine nxt_nx ?_ | refine lp_nx ?_ | refine lp_ct ?_ | refine lp_bk ?_ | refine lp_rt ?_ | refine lp_rf ?_ | refine nxt_rt ?_ | refine nxt_rf ?_ | refine nxt_bk ?_ | refine nxt_ct ?_ | refine end_nx ?_ | refine end_rt ?_ | refine end_rf ?_ | refine ws_next ?_ | refine ws_brk ?_ | refine ws_cnt ?_ | refine ws_do ?_ | refine ws_ret ?_ | refine ws_retF ?_ | refine ws_retN ?_ | refine ws_set ?_ | refine ws_acc ?_ | refine ws_par ?_ | refine ws_asg ?_ | refine ws_for ?_ | refine ws_if ?_ | refine we_2 ?_ | refine we_1 ?_ | refine we_n ?_ | refine we_3 ?_ | refine we_c ?_ | refine wo_none ?_ | refine wo_some ?_ | refine wl_cons ?_ | refine wl_nil ?_ | refine we_V ?_ | refine we_own ?_ | refine we_tup ?_ | refine wl_lst ?_ | refine wt_of ?_ | refine wt_or ?_ | refine wt_and ?_ | refine wt_not ?_ | refine we_and ?_ | refine we_or ?_ | refine we_not ?_ | refine we_if ?_ | refine we_isN ?_ | refine we_notN ?_ | refine we_chain ?_ | refine wt_yes ?_ | refine wi_L ?_ | refine wi_T ?_ | refine wi_S ?_ | refine wi_R1 ?_ | refine wi_R2 ?_ | refine wi_R3 ?_ | refine wi_E ?_ | refine we_call ?_ | refine we_callF ?_ | refine we_bm ?_ | refine wg_sb ?_ | refine we_m1 ?_ | refine we_rev ?_ | refine wo_add ?_ | refine wo_sub ?_ | refine wo_neg ?_ | refine wo_cmp ?_ | refine wo_eqI ?_ | refine wo_neI ?_ | refine wo_eqS ?_ | refine wo_neS ?_ | refine wo_eqB ?_ | refine wo_neB ?_ | refine wo_lenL ?_ | refine wo_lenT ?_ | refine wo_lenC ?_ | refine wo_max ?_ | refine wo_min ?_ | refine wo_slL ?_ | refine wo_listC ?_ | refine wo_listL ?_ | refine wo_listT ?_ | refine wo_tupT ?_ | refine wo_tupL ?_ | refine wo_intI ?_ | refine wo_intB ?_ | refine wo_strS ?_ | refine wo_inS ?_ | refine wo_ninS ?_) | ((with_reducible apply we_var); rfl) | ((with_reducible apply ws_frz); rfl) | ((with_reducible apply ws_app); rfl) | ((with_reducible apply ws_extend); rfl) | ((with_reducible apply ws_retA); rfl) | ((with_reducible apply ws_frz0); rfl) | ((with_reducible apply wo_isT); rfl; rfl) | (refine ⟨Nat.le_of_ble_eq_true rfl, ?_⟩) | (with_reducible refine ⟨_, rfl, ?_⟩) | (with_reducible refine wg_nm (Nat.le_of_ble_eq_true rfl) ?_) | (refine ⟨⟨Nat.le_of_ble_eq_true rfl, Nat.le_of_ble_eq_true rfl⟩, ?_⟩) | (with_reducible refine Or.inl ⟨_, rfl, ?_⟩) | (with_reducible refine Or.inr ⟨_, rfl, ?_⟩))
  refine (sum_ok z3).mono fun o S1 h => ?_
  obtain ⟨rfl, rfl⟩ := h
  repeat (first | with_reducible (first | refine ws_seq ?_ | refine nxt_nx ?_ | refine lp_nx ?_ | refine lp_ct ?_ | refine lp_bk ?_ | refine lp_rt ?_ | refine lp_rf ?_ | refine nxt_rt ?_ | refine nxt_rf ?_ | refine nxt_bk ?_ | refine nxt_ct ?_ | refine end_nx ?_ | refine end_rt ?_ | refine end_rf ?_ | refine ws_next ?_ | refine ws_brk ?_ | refine ws_cnt ?_ | refine ws_do ?_ | refine ws_ret ?_ | refine ws_retF ?_ | refine ws_retN ?_ | refine ws_set ?_ | refine ws_acc ?_ | refine ws_par ?_ | refine ws_asg ?_ | refine ws_for ?_ | refine ws_if ?_ | refine we_2 ?_ | refine we_1 ?_ | refine we_n ?_ | refine we_3 ?_ | refine we_c ?_ | refine wo_none ?_ | refine wo_some ?_ | refine wl_cons ?_ | refine wl_nil ?_ | refine we_V ?_ | refine we_own ?_ | refine we_tup ?_ | refine wl_lst ?_ | refine wt_of ?_ | refine wt_or ?_ | refine wt_and ?_ | refine wt_not ?_ | refine we_and ?_ | refine we_or ?_ | refine we_not ?_ | refine we_if ?_ | refine we_isN ?_ | refine we_notN ?_ | refine we_chain ?_ | refine wt_yes ?_ | refine wi_L ?_ | refine wi_T ?_ | refine wi_S ?_ | refine wi_R1 ?_ | refine wi_R2 ?_ | refine wi_R3 ?_ | refine wi_E ?_ | refine we_call ?_ | refine we_callF ?_ | refine we_bm ?_ | refine wg_sb ?_ | refine we_m1 ?_ | refine we_rev ?_ | refine wo_add ?_ | refine wo_sub ?_ | refine wo_neg ?_ | refine wo_cmp ?_ | refine wo_eqI ?_ | refine wo_neI ?_ | refine wo_eqS ?_ | refine wo_neS ?_ | refine wo_eqB ?_ | refine wo_neB ?_ | refine wo_lenL ?_ | refine wo_lenT ?_ | refine wo_lenC ?_ | refine wo_max ?_ | refine wo_min ?_ | refine wo_slL ?_ | refine wo_listC ?_ | refine wo_listL ?_ | refine wo_listT ?_ | refine wo_tupT ?_ | refine wo_tupL ?_ | refine wo_intI ?_ | refine wo_intB ?_ | refine wo_strS ?_ | refine wo_inS ?_ | refine wo_ninS ?_) | ((with_reducible apply we_var); rfl) | ((with_reducible apply ws_frz); rfl) | ((with_reducible apply ws_app); rfl) | ((with_reducible apply ws_extend); rfl) | ((with_reducible apply ws_retA); rfl) | ((with_reducible apply ws_frz0); rfl) | ((with_reducible apply wo_isT); rfl; rfl) | (refine ⟨Nat.le_of_ble_eq_true rfl, ?_⟩) | (with_reducible refine ⟨_, rfl, ?_⟩) | (with_reducible refine wg_nm (Nat.le_of_ble_eq_true rfl) ?_) | (refine ⟨⟨Nat.le_of_ble_eq_true rfl, Nat.le_of_ble_eq_true rfl⟩, ?_⟩) | (with_reducible refine Or.inl ⟨_, rfl, ?_⟩) | (with_reducible refine Or.inr ⟨_, rfl, ?_⟩))
  refine num_ne ?_
  repeat (first | with_reducible (first | refine ws_seq ?_ | refine nxt_nx ?_ | refine lp_nx ?_ | refine lp_ct ?_ | refine lp_bk ?_ | refine lp_rt ?_ | refine lp_rf ?_ | refine nxt_rt ?_ | refine nxt_rf ?_ | refine nxt_bk ?_ | refine nxt_ct ?_ | refine end_nx ?_ | refine end_rt ?_ | refine end_rf ?_ | refine ws_next ?_ | refine ws_brk ?_ | refine ws_cnt ?_ | refine ws_do ?_ | refine ws_ret ?_ | refine ws_retF ?_ | refine ws_retN ?_ | refine ws_set ?_ | refine ws_acc ?_ | refine ws_par ?_ | refine ws_asg ?_ | refine ws_for ?_ | refine ws_if ?_ | refine we_2 ?_ | refine we_1 ?_ | refine we_n ?_ | refine we_3 ?_ | refine we_c ?_ | refine wo_none ?_ | refine wo_some ?_ | refine wl_cons ?_ | refine wl_nil ?_ | refine we_V ?_ | refine we_own ?_ | refine we_tup ?_ | refine wl_lst ?_ | refine wt_of ?_ | refine wt_or ?_ | refine wt_and ?_ | refine wt_not ?_ | refine we_and ?_ | refine we_or ?_ | refine we_not ?_ | refine we_if ?_ | refine we_isN ?_ | refine we_notN ?_ | refine we_chain ?_ | refine wt_yes ?_ | refine wi_L ?_ | refine wi_T ?_ | refine wi_S ?_ | refine wi_R1 ?_ | refine wi_R2 ?_ | refine wi_R3 ?_ | refine wi_E ?_ | refine we_call ?_ | refine we_callF ?_ | refine we_bm ?_ | refine wg_sb ?_ | refine we_m1 ?_ | refine we_rev ?_ | refine wo_add ?_ | refine wo_sub ?_ | refine wo_neg ?_ | refine wo_cmp ?_ | refine wo_eqI ?_ | refine wo_neI ?_ | refine wo_eqS ?_ | refine wo_neS ?_ | refine wo_eqB ?_ | refine wo_neB ?_ | refine wo_lenL ?_ | refine wo_lenT ?_ | refine wo_lenC ?_ | refine wo_max ?_ | refine wo_min ?_ | refine wo_slL ?_ | refine wo_listC ?_ | refine wo_listL ?_ | refine wo_listT ?_ | refine wo_tupT ?_ | refine wo_tupL ?_ | refine wo_intI ?_ | refine wo_intB ?_ | refine wo_strS ?_ | refine wo_inS ?_ | refine wo_ninS ?_) | ((with_reducible apply we_var); rfl) | ((with_reducible apply ws_frz); rfl) | ((with_reducible apply ws_app); rfl) | ((with_reducible apply ws_extend); rfl) | ((with_reducible apply ws_retA); rfl) | ((with_reducible apply ws_frz0); rfl) | ((with_reducible apply wo_isT); rfl; rfl) | (refine ⟨Nat.le_of_ble_eq_true rfl, ?_⟩) | (with_reducible refine ⟨_, rfl, ?_⟩) | (with_reducible refine wg_nm (Nat.le_of_ble_eq_true rfl) ?_) | (refine ⟨⟨Nat.le_of_ble_eq_true rfl, Nat.le_of_ble_eq_true rfl⟩, ?_⟩) | (with_reducible refine Or.inl ⟨_, rfl, ?_⟩) | (with_reducible refine Or.inr ⟨_, rfl, ?_⟩))
  refine ⟨fun z => ?_, fun z => ?_⟩
  · repeat (first | with_reducible (first | refine ws_seq ?_ | refine nxt_nx ?_ | refine lp_nx ?_ | refine lp_ct ?_ | refine lp_bk ?_ | refine lp_rt ?_ | refine lp_rf ?_ | refine nxt_rt ?_ | refine nxt_rf ?_ | refine nxt_bk ?_ | refine nxt_ct ?_ | refine end_nx ?_ | refine end_rt ?_ | refine end_rf ?_ | refine ws_next ?_ | refine ws_brk ?_ | refine ws_cnt ?_ | refine ws_do ?_ | refine ws_ret ?_ | refine ws_retF ?_ | refine ws_retN ?_ | refine ws_set ?_ | refine ws_acc ?_ | refine ws_par ?_ | refine ws_asg ?_ | refine ws_for ?_ | refine ws_if ?_ | refine we_2 ?_ | refine we_1 ?_ | refine we_n ?_ | refine we_3 ?_ | refine we_c ?_ | refine wo_none ?_ | refine wo_some ?_ | refine wl_cons ?_ | refine wl_nil ?_ | refine we_V ?_ | refine we_own ?_ | refine we_tup ?_ | refine wl_lst ?_ | refine wt_of ?_ | refine wt_or ?_ | refine wt_and ?_ | refine wt_not ?_ | refine we_and ?_ | refine we_or ?_ | refine we_not ?_ | refine we_if ?_ | refine we_isN ?_ | refine we_notN ?_ | refine we_chain ?_ | refine wt_yes ?_ | refine wi_L ?_ | refine wi_T ?_ | refine wi_S ?_ | refine wi_R1 ?_ | refine wi_R2 ?_ | refine wi_R3 ?_ | refine wi_E ?_ | refine we_call ?_ | refine we_callF ?_ | refine we_bm ?_ | refine wg_sb ?_ | refine we_m1 ?_ | refine we_rev ?_ | refine wo_add ?_ | refine wo_sub ?_ | refine wo_neg ?_ | refine wo_cmp ?_ | refine wo_eqI ?_ | refine wo_neI ?_ | refine wo_eqS ?_ | refine wo_neS ?_ | refine wo_eqB ?_ | refine wo_neB ?_ | refine wo_lenL ?_ | refine wo_lenT ?_ | refine wo_lenC ?_ | refine wo_max ?_ | refine wo_min ?_ | refine wo_slL ?_ | refine wo_listC ?_ | refine wo_listL ?_ | refine wo_listT ?_ | refine wo_tupT ?_ | refine wo_tupL ?_ | refine wo_intI ?_ | refine wo_intB ?_ | refine wo_strS ?_ | refine wo_inS ?_ | refine wo_ninS ?_) | ((with_reducible apply we_var); rfl) | ((with_reducible apply ws_frz); rfl) | ((with_reducible apply ws_app); rfl) | ((with_reducible apply ws_extend); rfl) | ((with_reducible apply ws_retA); rfl) | ((with_reducible apply ws_frz0); rfl) | ((with_reducible apply wo_isT); rfl; rfl) | (refine ⟨Nat.le_of_ble_eq_true rfl, ?_⟩) | (with_reducible refine ⟨_, rfl, ?_⟩) | (with_reducible refine wg_nm (Nat.le_of_ble_eq_true rfl) ?_) | (refine ⟨⟨Nat.le_of_ble_eq_true rfl, Nat.le_of_ble_eq_true rfl⟩, ?_⟩) | (with_reducible refine Or.inl ⟨_, rfl, ?_⟩) | (with_reducible refine Or.inr ⟨_, rfl, ?_⟩))
    refine bad (ρ := []) rfl fun q => ?_
    rw [decide_eq_true q.2.2.2] at z
    cases z
  have z5 : numV b = some (sumV B) := by
    by_cases q : numV b = some (sumV B)
    · exact q
    · rw [decide_eq_false q] at z
      cases z
  repeat (first | with_reducible (first | refine ws_seq ?_ | refine nxt_nx ?_ | refine lp_nx ?_ | refine lp_ct ?_ | refine lp_bk ?_ | refine lp_rt ?_ | refine lp_rf ?_ | refine nxt_rt ?_ | refine nxt_rf ?_ | refine nxt_bk ?_ | refine nxt_ct ?_ | refine end_nx ?_ | refine end_rt ?_ | refine end_rf ?_ | refine ws_next ?_ | refine ws_brk ?_ | refine ws_cnt ?_ | refine ws_do ?_ | refine ws_ret ?_ | refine ws_retF ?_ | refine ws_retN ?_ | refine ws_set ?_ | refine ws_acc ?_ | refine ws_par ?_ | refine ws_asg ?_ | refine ws_for ?_ | refine ws_if ?_ | refine we_2 ?_ | refine we_1 ?_ | refine we_n ?_ | refine we_3 ?_ | refine we_c ?_ | refine wo_none ?_ | refine wo_some ?_ | refine wl_cons ?_ | refine wl_nil ?_ | refine we_V ?_ | refine we_own ?_ | refine we_tup ?_ | refine wl_lst ?_ | refine wt_of ?_ | refine wt_or ?_ | refine wt_and ?_ | refine wt_not ?_ | refine we_and ?_ | refine we_or ?_ | refine we_not ?_ | refine we_if ?_ | refine we_isN ?_ | refine we_notN ?_ | refine we_chain ?_ | refine wt_yes ?_ | refine wi_L ?_ | refine wi_T ?_ | refine wi_S ?_ | refine wi_R1 ?_ | refine wi_R2 ?_ | refine wi_R3 ?_ | refine wi_E ?_ | refine we_call ?_ | refine we_callF ?_ | refine we_bm ?_ | refine wg_sb ?_ | refine we_m1 ?_ | refine we_rev ?_ | refine wo_add ?_ | refine wo_sub ?_ | refine wo_neg ?_ | refine wo_cmp ?_ | refine wo_eqI ?_ | refine wo_neI ?_ | refine wo_eqS ?_ | refine wo_neS ?_ | refine wo_eqB ?_ | refine wo_neB ?_ | refine wo_lenL ?_ | refine wo_lenT ?_ | refine wo_lenC ?_ | refine wo_max ?_ | refine wo_min ?_ | refine wo_slL ?_ | refine wo_listC ?_ | refine wo_listL ?_ | refine wo_listT ?_ | refine wo_tupT ?_ | refine wo_tupL ?_ | refine wo_intI ?_ | refine wo_intB ?_ | refine wo_strS ?_ | refine wo_inS ?_ | refine wo_ninS ?_) | ((with_reducible apply we_var); rfl) | ((with_reducible apply ws_frz); rfl) | ((with_reducible apply ws_app); rfl) | ((with_reducible apply ws_extend); rfl) | ((with_reducible apply ws_retA); rfl) | ((with_reducible apply ws_frz0); rfl) | ((with_reducible apply wo_isT); rfl; rfl) | (refine ⟨Nat.le_of_ble_eq_true rfl, ?_⟩) | (with_reducible refine ⟨_, rfl, ?_⟩) | (with_reducible refine wg_nm (Nat.le_of_ble_eq_true rfl) ?_) | (refine ⟨⟨Nat.le_of_ble_eq_true rfl, Nat.le_of_ble_eq_true rfl⟩, ?_⟩) | (with_reducible refine Or.inl ⟨_, rfl, ?_⟩) | (with_reducible refine Or.inr ⟨_, rfl, ?_⟩))
  refine wo_split ⟨by decide, by omega⟩ ?_
  repeat (first | with_reducible (first | refine ws_seq ?_ | refine nxt_nx ?_ | refine lp_nx ?_ | refine lp_ct ?_ | refine lp_bk ?_ | refine lp_rt ?_ | refine lp_rf ?_ | refine nxt_rt ?_ | refine nxt_rf ?_ | refine nxt_bk ?_ | refine nxt_ct ?_ | refine end_nx ?_ | refine end_rt ?_ | refine end_rf ?_ | refine ws_next ?_ | refine ws_brk ?_ | refine ws_cnt ?_ | refine ws_do ?_ | refine ws_ret ?_ | refine ws_retF ?_ | refine ws_retN ?_ | refine ws_set ?_ | refine ws_acc ?_ | refine ws_par ?_ | refine ws_asg ?_ | refine ws_for ?_ | refine ws_if ?_ | refine we_2 ?_ | refine we_1 ?_ | refine we_n ?_ | refine we_3 ?_ | refine we_c ?_ | refine wo_none ?_ | refine wo_some ?_ | refine wl_cons ?_ | refine wl_nil ?_ | refine we_V ?_ | refine we_own ?_ | refine we_tup ?_ | refine wl_lst ?_ | refine wt_of ?_ | refine wt_or ?_ | refine wt_and ?_ | refine wt_not ?_ | refine we_and ?_ | refine we_or ?_ | refine we_not ?_ | refine we_if ?_ | refine we_isN ?_ | refine we_notN ?_ | refine we_chain ?_ | refine wt_yes ?_ | refine wi_L ?_ | refine wi_T ?_ | refine wi_S ?_ | refine wi_R1 ?_ | refine wi_R2 ?_ | refine wi_R3 ?_ | refine wi_E ?_ | refine we_call ?_ | refine we_callF ?_ | refine we_bm ?_ | refine wg_sb ?_ | refine we_m1 ?_ | refine we_rev ?_ | refine wo_add ?_ | refine wo_sub ?_ | refine wo_neg ?_ | refine wo_cmp ?_ | refine wo_eqI ?_ | refine wo_neI ?_ | refine wo_eqS ?_ | refine wo_neS ?_ | refine wo_eqB ?_ | refine wo_neB ?_ | refine wo_lenL ?_ | refine wo_lenT ?_ | refine wo_lenC ?_ | refine wo_max ?_ | refine wo_min ?_ | refine wo_slL ?_ | refine wo_listC ?_ | refine wo_listL ?_ | refine wo_listT ?_ | refine wo_tupT ?_ | refine wo_tupL ?_ | refine wo_intI ?_ | refine wo_intB ?_ | refine wo_strS ?_ | refine wo_inS ?_ | refine wo_ninS ?_) | ((with_reducible apply we_var); rfl) | ((with_reducible apply ws_frz); rfl) | ((with_reducible apply ws_app); rfl) | ((with_reducible apply ws_extend); rfl) | ((with_reducible apply ws_retA); rfl) | ((with_reducible apply ws_frz0); rfl) | ((with_reducible apply wo_isT); rfl; rfl) | (refine ⟨Nat.le_of_ble_eq_true rfl, ?_⟩) | (with_reducible refine ⟨_, rfl, ?_⟩) | (with_reducible refine wg_nm (Nat.le_of_ble_eq_true rfl) ?_) | (refine ⟨⟨Nat.le_of_ble_eq_true rfl, Nat.le_of_ble_eq_true rfl⟩, ?_⟩) | (with_reducible refine Or.inl ⟨_, rfl, ?_⟩) | (with_reducible refine Or.inr ⟨_, rfl, ?_⟩))
  rw [if_pos ⟨z2, z3, z4, z5⟩]
  exact ⟨rfl, rfl⟩
/-! one behind the other -/
theorem split_none {c : Nat} : ∀ {z : List Nat}, c ∉ z → splitC c z = [z]
  | [], _ => rfl
  | x :: z, h => by
    have h1 : x ≠ c := fun e => h (by rw [e]; exact List.mem_cons_self ..)
    unfold splitC
    rw [if_neg h1, split_none fun q => h (List.mem_cons_of_mem _ q)]
theorem split_app {c : Nat} : ∀ {z r : List Nat}, c ∉ z → splitC c (z ++ c :: r) = z :: splitC c r
  | [], r, _ => by
    show splitC c (c :: r) = _
    rw [splitC, if_pos rfl]
  | x :: z, r, h => by
    have h1 : x ≠ c := fun e => h (by rw [e]; exact List.mem_cons_self ..)
    show splitC c (x :: (z ++ c :: r)) = _
    rw [splitC, if_neg h1, split_app fun q => h (List.mem_cons_of_mem _ q)]
theorem split_join {c : Nat} : ∀ {fs : List (List Nat)}, fs ≠ [] → (∀ z ∈ fs, c ∉ z) → splitC c (joinD [c] fs) = fs
  | [], h, _ => absurd rfl h
  | [p], _, h => split_none (h p (List.mem_cons_self ..))
  | p :: q :: r, _, h => by
    show splitC c (p ++ ([c] ++ joinD [c] (q :: r))) = _
    rw [List.singleton_append, split_app (h p (List.mem_cons_self ..)), split_join (by simp) fun z hz => h z (List.mem_cons_of_mem _ hz)]
theorem numL_head {n : Nat} : n ≠ 0 → (numL n).head? ≠ some 48 := by
  induction n using Nat.strongRecOn with
  | ind n ih =>
    intro h0
    by_cases h : n < 10
    · rw [numL_lt h]
      simp
      omega
    · rw [numL_step (by omega)]
      have h1 := ih (n / 10) (by omega) (by omega)
      cases e : numL (n / 10) with
      | nil => exact absurd e (numL_ne _)
      | cons x xs =>
        rw [e] at h1
        exact h1
theorem decV_num (n : Nat) : decV (numL n) = n := by
  induction n using Nat.strongRecOn with
  | ind n ih =>
    by_cases h : n < 10
    · rw [numL_lt h]
      show 0 * 10 + (48 + n - 48) = n
      omega
    · rw [numL_step (by omega)]
      unfold decV
      rw [List.foldl_append]
      have h1 := ih (n / 10) (by omega)
      unfold decV at h1
      rw [h1]
      show n / 10 * 10 + (48 + n % 10 - 48) = n
      omega
theorem numL_dg {n c : Nat} (h : c ∈ numL n) : c ∈ dg := dg_iff.mpr (by
  have r := numL_digits n c h
  omega)
theorem numV_num {n : Nat} (h : n < 1000000) : numV (numL n) = some n := by
  have h1 : (numL n).length ≤ 6 := numL_le (by omega) (by omega)
  have h2 : 1 ≤ (numL n).length := by
    cases e : numL n with
    | nil => exact absurd e (numL_ne n)
    | cons x xs => simp
  unfold numV
  rw [if_pos, decV_num]
  refine ⟨⟨h2, h1⟩, fun c hc => numL_dg hc, ?_⟩
  by_cases q : n = 0
  · subst q
    exact .inr (numL_lt (by omega))
  · exact .inl (numL_head q)
theorem unpack_pack {fs : List (List Nat)} (h : Fs fs 900000) : unpackV (packV fs) = some fs := by
  obtain ⟨hb, hl⟩ := h.body
  have n46 : ∀ n, (46 : Nat) ∉ numL n := fun n => numL_free (by omega)
  have e : splitC 46 (packV fs) = [numL (joinD [124] fs).length, numL (sumV (joinD [124] fs)), joinD [124] fs ++ [33]] := by
    have e1 : packV fs = numL (joinD [124] fs).length ++ 46 :: (numL (sumV (joinD [124] fs)) ++ 46 :: (joinD [124] fs ++ [33])) := by
      unfold packV
      simp
    rw [e1, split_app (n46 _), split_app (n46 _), split_none]
    intro q
    rcases List.mem_append.mp q with q | q
    · exact absurd (hb _ q) (by decide)
    · exact absurd (List.mem_singleton.mp q) (by decide)
  have ht : (joinD [124] fs ++ [33]).take ((joinD [124] fs ++ [33]).length - 1) = joinD [124] fs := by simp
  have hd : (joinD [124] fs ++ [33]).drop ((joinD [124] fs ++ [33]).length - 1) = [33] := by simp
  unfold unpackV
  rw [e]
  dsimp only
  rw [ht, hd, if_pos, split_join h.ne]
  · intro z hz q
    exact absurd (h.sg z hz _ q) (by decide)
  · exact ⟨rfl, hb, numV_num (by omega), numV_num (by have := sumV_lt (joinD [124] fs); omega)⟩
/-! drawn signs -/
theorem wl_drawn {it : EvL} {j : Nat} {e : Ev} {ρ : Rho} {S : Sto} {A : List Nat} {l m : Nat} {ρ1 : D → Rho} {P : List D → Sto → Prop} (hp : ∀ d, pNm j d (wipeR ρ [j]) = some (ρ1 d))
    (h : W (it ρ S) fun all S1 => ∃ n : Nat, all.length = n ∧ n ≤ 1000000 ∧ Box S1 l m ∧ (∀ S2 d, Box S2 l m → W (e (ρ1 d) S2) fun x S3 => ∃ c, x = .str [c] ∧ c ∈ A ∧ Bx l m S2 S3) ∧ ∀ (zs : List Nat) S2, zs.length = n → (∀ c ∈ zs, c ∈ A) → Bx l m S1 S2 → P (zs.map fun c => D.str [c]) S2) : W (fLc it [j] (pNm j) tYesE e ρ S) P := by
  refine wl_lc (h.mono fun all S1 hh => ?_)
  obtain ⟨n, hn, hn2, b, he, hP⟩ := hh
  refine ⟨fun k out S2 => Bx l m S1 S2 ∧ ∃ zs : List Nat, out = zs.map (fun c => D.str [c]) ∧ zs.length = k ∧ ∀ c ∈ zs, c ∈ A, ⟨Bx.refl b, [], rfl, rfl, fun c hc => (nomatch hc)⟩, ?_, ?_⟩
  · rintro k d out S2 hk ⟨bx, zs, rfl, hl, hc⟩
    refine ⟨_, hp d, wt_yes ⟨fun z => (nomatch z), fun _ => ?_⟩⟩
    refine (he S2 d bx.box).mono fun x S3 h => ?_
    obtain ⟨c, rfl, hcA, bx3⟩ := h
    refine ⟨bx.trans bx3, zs ++ [c], by rw [List.map_append]; rfl, by simp [hl], fun y hy => ?_⟩
    rcases List.mem_append.mp hy with h | h
    · exact hc y h
    · rw [List.mem_singleton] at h
      rw [h]
      exact hcA
  · rintro out S2 ⟨bx, zs, rfl, hl, hc⟩
    exact ⟨by rw [List.length_map]; omega, hP zs S2 (by omega) hc bx⟩
/-- a sign at a drawn place -/
theorem draw_sign {A : List Nat} {S : Sto} {l m : Nat} {N : Int} (b : Box S l m) (hN : (A.length : Int) = N) (h0 : 0 < N) (h1 : N < 1000) : W (F_take [.ref l, .int N] S) fun o S' => ∃ (r : Nat) (c : Nat), o = .v (.int r) ∧ A[r]? = some c ∧ c ∈ A ∧ Bx l m S S' :=
  (take_ok b h0 (by omega)).mono fun o S' h => by
    obtain ⟨r, rfl, hr, bx⟩ := h
    have lt : r.toNat < A.length := by omega
    refine ⟨r.toNat, A[r.toNat]'lt, ?_, List.getElem?_eq_getElem lt, List.getElem_mem lt, bx⟩
    rw [Int.toNat_of_nonneg hr.1]
/-- a drawn one of some numbers -/
theorem draw_nat {S : Sto} {l m : Nat} {n : Nat} (b : Box S l m) (h0 : 0 < n) (h1 : n < 1073741824) : W (F_take [.ref l, .int n] S) fun o S' => ∃ r : Nat, o = .v (.int r) ∧ r < n ∧ Bx l m S S' :=
  (take_ok b (by omega) (by omega)).mono fun o S' h => by
    obtain ⟨r, rfl, hr, bx⟩ := h
    refine ⟨r.toNat, ?_, by omega, bx⟩
    rw [Int.toNat_of_nonneg hr.1]
def bLPacked : EvS := (sSeq (sAsg (eC (.str sb)) (gNm 1))
  (sSeq (sAsg (eM1 fJoin (eC (.str [124])) (eVar 0)) (gNm 2))
  (sSeq (sAsg (eC (.int 0)) (gNm 3))
  (sSeq (sFor (iS (eVar 2)) (gNm 4) (sAsg (e2 fMod (e2 fAdd (e2 fAdd (e2 fMul (eVar 3) (eC (.int 61))) (eM1 fIndexS (eVar 1) (eVar 4))) (eC (.int 1))) (eC (.int 9973))) (gNm 3)))
  (sRet (e2 fAdd (e2 fAdd (e2 fAdd (e2 fAdd (e2 fAdd (eN fStr (aCons (eN fLen (aCons (eVar 2) aNil)) aNil)) (eC (.str [46]))) (eN fStr (aCons (eVar 3) aNil))) (eC (.str [46]))) (eVar 2)) (eC (.str [33]))))))))
def F_lpacked : Fn := runB 1 5 bLPacked
/-- the text of fields that may be any of the signs -/
theorem lpacked_ok' {S : Sto} {a : D} {fs : List (List Nat)} (ha : lstOf S a = some (fs.map .str)) (hl : (fs.map (·.length)).sum + fs.length ≤ 900000) (hb : ∀ c ∈ joinD [124] fs, c ∈ sb) (hbl : (joinD [124] fs).length ≤ 900000) : W (F_lpacked [a] S) fun o S' => o = .v (.str (packV fs)) ∧ S' = S := by
  refine w_run rfl ?_
  show WS (bLPacked [.val a, .no, .no, .no, .no] S) _
  unfold bLPacked
  repeat (first | with_reducible (first | refine ws_seq ?_ | refine nxt_nx ?_ | refine lp_nx ?_ | refine lp_ct ?_ | refine lp_bk ?_ | refine lp_rt ?_ | refine lp_rf ?_ | refine nxt_rt ?_ | refine nxt_rf ?_ | refine nxt_bk ?_ | refine nxt_ct ?_ | refine end_nx ?_ | refine end_rt ?_ | refine end_rf ?_ | refine ws_next ?_ | refine ws_brk ?_ | refine ws_cnt ?_ | refine ws_do ?_ | refine ws_ret ?_ | refine ws_retF ?_ | refine ws_retN ?_ | refine ws_set ?_ | refine ws_acc ?_ | refine ws_par ?_ | refine ws_asg ?_ | refine ws_for ?_ | refine ws_if ?_ | refine we_2 ?_ | refine we_1 ?_ | refine we_n ?_ | refine we_3 ?_ | refine we_c ?_ | refine wo_none ?_ | refine wo_some ?_ | refine wl_cons ?_ | refine wl_nil ?_ | refine we_V ?_ | refine we_own ?_ | refine we_tup ?_ | refine wl_lst ?_ | refine wt_of ?_ | refine wt_or ?_ | refine wt_and ?_ | refine wt_not ?_ | refine we_and ?_ | refine we_or ?_ | refine we_not ?_ | refine we_if ?_ | refine we_isN ?_ | refine we_notN ?_ | refine we_chain ?_ | refine wt_yes ?_ | refine wi_L ?_ | refine wi_T ?_ | refine wi_S ?_ | refine wi_R1 ?_ | refine wi_R2 ?_ | refine wi_R3 ?_ | refine wi_E ?_ | refine we_call ?_ | refine we_callF ?_ | refine we_bm ?_ | refine wg_sb ?_ | refine we_m1 ?_ | refine we_rev ?_ | refine wo_add ?_ | refine wo_sub ?_ | refine wo_neg ?_ | refine wo_cmp ?_ | refine wo_eqI ?_ | refine wo_neI ?_ | refine wo_eqS ?_ | refine wo_neS ?_ | refine wo_eqB ?_ | refine wo_neB ?_ | refine wo_lenL ?_ | refine wo_lenT ?_ | refine wo_lenC ?_ | refine wo_max ?_ | refine wo_min ?_ | refine wo_slL ?_ | refine wo_listC ?_ | refine wo_listL ?_ | refine wo_listT ?_ | refine wo_tupT ?_ | refine wo_tupL ?_ | refine wo_intI ?_ | refine wo_intB ?_ | refine wo_strS ?_ | refine wo_inS ?_ | refine wo_ninS ?_) | ((with_reducible apply we_var); rfl) | ((with_reducible apply ws_frz); rfl) | ((with_reducible apply ws_app); rfl) | ((with_reducible apply ws_extend); rfl) | ((with_reducible apply ws_retA); rfl) | ((with_reducible apply ws_frz0); rfl) | ((with_reducible apply wo_isT); rfl; rfl) | (refine ⟨Nat.le_of_ble_eq_true rfl, ?_⟩) | (with_reducible refine ⟨_, rfl, ?_⟩) | (with_reducible refine wg_nm (Nat.le_of_ble_eq_true rfl) ?_) | (refine ⟨⟨Nat.le_of_ble_eq_true rfl, Nat.le_of_ble_eq_true rfl⟩, ?_⟩) | (with_reducible refine Or.inl ⟨_, rfl, ?_⟩) | (with_reducible refine Or.inr ⟨_, rfl, ?_⟩))
  refine wo_joinO ha (by simp; omega) ?_
  repeat (first | with_reducible (first | refine ws_seq ?_ | refine nxt_nx ?_ | refine lp_nx ?_ | refine lp_ct ?_ | refine lp_bk ?_ | refine lp_rt ?_ | refine lp_rf ?_ | refine nxt_rt ?_ | refine nxt_rf ?_ | refine nxt_bk ?_ | refine nxt_ct ?_ | refine end_nx ?_ | refine end_rt ?_ | refine end_rf ?_ | refine ws_next ?_ | refine ws_brk ?_ | refine ws_cnt ?_ | refine ws_do ?_ | refine ws_ret ?_ | refine ws_retF ?_ | refine ws_retN ?_ | refine ws_set ?_ | refine ws_acc ?_ | refine ws_par ?_ | refine ws_asg ?_ | refine ws_for ?_ | refine ws_if ?_ | refine we_2 ?_ | refine we_1 ?_ | refine we_n ?_ | refine we_3 ?_ | refine we_c ?_ | refine wo_none ?_ | refine wo_some ?_ | refine wl_cons ?_ | refine wl_nil ?_ | refine we_V ?_ | refine we_own ?_ | refine we_tup ?_ | refine wl_lst ?_ | refine wt_of ?_ | refine wt_or ?_ | refine wt_and ?_ | refine wt_not ?_ | refine we_and ?_ | refine we_or ?_ | refine we_not ?_ | refine we_if ?_ | refine we_isN ?_ | refine we_notN ?_ | refine we_chain ?_ | refine wt_yes ?_ | refine wi_L ?_ | refine wi_T ?_ | refine wi_S ?_ | refine wi_R1 ?_ | refine wi_R2 ?_ | refine wi_R3 ?_ | refine wi_E ?_ | refine we_call ?_ | refine we_callF ?_ | refine we_bm ?_ | refine wg_sb ?_ | refine we_m1 ?_ | refine we_rev ?_ | refine wo_add ?_ | refine wo_sub ?_ | refine wo_neg ?_ | refine wo_cmp ?_ | refine wo_eqI ?_ | refine wo_neI ?_ | refine wo_eqS ?_ | refine wo_neS ?_ | refine wo_eqB ?_ | refine wo_neB ?_ | refine wo_lenL ?_ | refine wo_lenT ?_ | refine wo_lenC ?_ | refine wo_max ?_ | refine wo_min ?_ | refine wo_slL ?_ | refine wo_listC ?_ | refine wo_listL ?_ | refine wo_listT ?_ | refine wo_tupT ?_ | refine wo_tupL ?_ | refine wo_intI ?_ | refine wo_intB ?_ | refine wo_strS ?_ | refine wo_inS ?_ | refine wo_ninS ?_) | ((with_reducible apply we_var); rfl) | ((with_reducible apply ws_frz); rfl) | ((with_reducible apply ws_app); rfl) | ((with_reducible apply ws_extend); rfl) | ((with_reducible apply ws_retA); rfl) | ((with_reducible apply ws_frz0); rfl) | ((with_reducible apply wo_isT); rfl; rfl) | (refine ⟨Nat.le_of_ble_eq_true rfl, ?_⟩) | (with_reducible refine ⟨_, rfl, ?_⟩) | (with_reducible refine wg_nm (Nat.le_of_ble_eq_true rfl) ?_) | (refine ⟨⟨Nat.le_of_ble_eq_true rfl, Nat.le_of_ble_eq_true rfl⟩, ?_⟩) | (with_reducible refine Or.inl ⟨_, rfl, ?_⟩) | (with_reducible refine Or.inr ⟨_, rfl, ?_⟩))
  generalize hB : joinD [124] fs = B at hb hbl ⊢
  refine ws_loop (fun k ρ S1 => S1 = S ∧ ∃ x : Sl, ρ = [.val a, .val (.str sb), .val (.str B), .val (.int (sumV (B.take k))), x]) ⟨rfl, _, rfl⟩ ?_ ?_
  · rintro k d ρ S1 hk ⟨rfl, x, rfl⟩
    obtain ⟨c, hc, rfl⟩ := chars_get hk
    repeat (first | with_reducible (first | refine ws_seq ?_ | refine nxt_nx ?_ | refine lp_nx ?_ | refine lp_ct ?_ | refine lp_bk ?_ | refine lp_rt ?_ | refine lp_rf ?_ | refine nxt_rt ?_ | refine nxt_rf ?_ | refine nxt_bk ?_ | refine nxt_ct ?_ | refine end_nx ?_ | refine end_rt ?_ | refine end_rf ?_ | refine ws_next ?_ | refine ws_brk ?_ | refine ws_cnt ?_ | refine ws_do ?_ | refine ws_ret ?_ | refine ws_retF ?_ | refine ws_retN ?_ | refine ws_set ?_ | refine ws_acc ?_ | refine ws_par ?_ | refine ws_asg ?_ | refine ws_for ?_ | refine ws_if ?_ | refine we_2 ?_ | refine we_1 ?_ | refine we_n ?_ | refine we_3 ?_ | refine we_c ?_ | refine wo_none ?_ | refine wo_some ?_ | refine wl_cons ?_ | refine wl_nil ?_ | refine we_V ?_ | refine we_own ?_ | refine we_tup ?_ | refine wl_lst ?_ | refine wt_of ?_ | refine wt_or ?_ | refine wt_and ?_ | refine wt_not ?_ | refine we_and ?_ | refine we_or ?_ | refine we_not ?_ | refine we_if ?_ | refine we_isN ?_ | refine we_notN ?_ | refine we_chain ?_ | refine wt_yes ?_ | refine wi_L ?_ | refine wi_T ?_ | refine wi_S ?_ | refine wi_R1 ?_ | refine wi_R2 ?_ | refine wi_R3 ?_ | refine wi_E ?_ | refine we_call ?_ | refine we_callF ?_ | refine we_bm ?_ | refine wg_sb ?_ | refine we_m1 ?_ | refine we_rev ?_ | refine wo_add ?_ | refine wo_sub ?_ | refine wo_neg ?_ | refine wo_cmp ?_ | refine wo_eqI ?_ | refine wo_neI ?_ | refine wo_eqS ?_ | refine wo_neS ?_ | refine wo_eqB ?_ | refine wo_neB ?_ | refine wo_lenL ?_ | refine wo_lenT ?_ | refine wo_lenC ?_ | refine wo_max ?_ | refine wo_min ?_ | refine wo_slL ?_ | refine wo_listC ?_ | refine wo_listL ?_ | refine wo_listT ?_ | refine wo_tupT ?_ | refine wo_tupL ?_ | refine wo_intI ?_ | refine wo_intB ?_ | refine wo_strS ?_ | refine wo_inS ?_ | refine wo_ninS ?_) | ((with_reducible apply we_var); rfl) | ((with_reducible apply ws_frz); rfl) | ((with_reducible apply ws_app); rfl) | ((with_reducible apply ws_extend); rfl) | ((with_reducible apply ws_retA); rfl) | ((with_reducible apply ws_frz0); rfl) | ((with_reducible apply wo_isT); rfl; rfl) | (refine ⟨Nat.le_of_ble_eq_true rfl, ?_⟩) | (with_reducible refine ⟨_, rfl, ?_⟩) | (with_reducible refine wg_nm (Nat.le_of_ble_eq_true rfl) ?_) | (refine ⟨⟨Nat.le_of_ble_eq_true rfl, Nat.le_of_ble_eq_true rfl⟩, ?_⟩) | (with_reducible refine Or.inl ⟨_, rfl, ?_⟩) | (with_reducible refine Or.inr ⟨_, rfl, ?_⟩))
    refine wo_mul (Or.inr (by decide)) ?_
    repeat (first | with_reducible (first | refine ws_seq ?_ | refine nxt_nx ?_ | refine lp_nx ?_ | refine lp_ct ?_ | refine lp_bk ?_ | refine lp_rt ?_ | refine lp_rf ?_ | refine nxt_rt ?_ | refine nxt_rf ?_ | refine nxt_bk ?_ | refine nxt_ct ?_ | refine end_nx ?_ | refine end_rt ?_ | refine end_rf ?_ | refine ws_next ?_ | refine ws_brk ?_ | refine ws_cnt ?_ | refine ws_do ?_ | refine ws_ret ?_ | refine ws_retF ?_ | refine ws_retN ?_ | refine ws_set ?_ | refine ws_acc ?_ | refine ws_par ?_ | refine ws_asg ?_ | refine ws_for ?_ | refine ws_if ?_ | refine we_2 ?_ | refine we_1 ?_ | refine we_n ?_ | refine we_3 ?_ | refine we_c ?_ | refine wo_none ?_ | refine wo_some ?_ | refine wl_cons ?_ | refine wl_nil ?_ | refine we_V ?_ | refine we_own ?_ | refine we_tup ?_ | refine wl_lst ?_ | refine wt_of ?_ | refine wt_or ?_ | refine wt_and ?_ | refine wt_not ?_ | refine we_and ?_ | refine we_or ?_ | refine we_not ?_ | refine we_if ?_ | refine we_isN ?_ | refine we_notN ?_ | refine we_chain ?_ | refine wt_yes ?_ | refine wi_L ?_ | refine wi_T ?_ | refine wi_S ?_ | refine wi_R1 ?_ | refine wi_R2 ?_ | refine wi_R3 ?_ | refine wi_E ?_ | refine we_call ?_ | refine we_callF ?_ | refine we_bm ?_ | refine wg_sb ?_ | refine we_m1 ?_ | refine we_rev ?_ | refine wo_add ?_ | refine wo_sub ?_ | refine wo_neg ?_ | refine wo_cmp ?_ | refine wo_eqI ?_ | refine wo_neI ?_ | refine wo_eqS ?_ | refine wo_neS ?_ | refine wo_eqB ?_ | refine wo_neB ?_ | refine wo_lenL ?_ | refine wo_lenT ?_ | refine wo_lenC ?_ | refine wo_max ?_ | refine wo_min ?_ | refine wo_slL ?_ | refine wo_listC ?_ | refine wo_listL ?_ | refine wo_listT ?_ | refine wo_tupT ?_ | refine wo_tupL ?_ | refine wo_intI ?_ | refine wo_intB ?_ | refine wo_strS ?_ | refine wo_inS ?_ | refine wo_ninS ?_) | ((with_reducible apply we_var); rfl) | ((with_reducible apply ws_frz); rfl) | ((with_reducible apply ws_app); rfl) | ((with_reducible apply ws_extend); rfl) | ((with_reducible apply ws_retA); rfl) | ((with_reducible apply ws_frz0); rfl) | ((with_reducible apply wo_isT); rfl; rfl) | (refine ⟨Nat.le_of_ble_eq_true rfl, ?_⟩) | (with_reducible refine ⟨_, rfl, ?_⟩) | (with_reducible refine wg_nm (Nat.le_of_ble_eq_true rfl) ?_) | (refine ⟨⟨Nat.le_of_ble_eq_true rfl, Nat.le_of_ble_eq_true rfl⟩, ?_⟩) | (with_reducible refine Or.inl ⟨_, rfl, ?_⟩) | (with_reducible refine Or.inr ⟨_, rfl, ?_⟩))
    refine wo_index (hb c (List.mem_of_getElem? hc)) ?_
    repeat (first | with_reducible (first | refine ws_seq ?_ | refine nxt_nx ?_ | refine lp_nx ?_ | refine lp_ct ?_ | refine lp_bk ?_ | refine lp_rt ?_ | refine lp_rf ?_ | refine nxt_rt ?_ | refine nxt_rf ?_ | refine nxt_bk ?_ | refine nxt_ct ?_ | refine end_nx ?_ | refine end_rt ?_ | refine end_rf ?_ | refine ws_next ?_ | refine ws_brk ?_ | refine ws_cnt ?_ | refine ws_do ?_ | refine ws_ret ?_ | refine ws_retF ?_ | refine ws_retN ?_ | refine ws_set ?_ | refine ws_acc ?_ | refine ws_par ?_ | refine ws_asg ?_ | refine ws_for ?_ | refine ws_if ?_ | refine we_2 ?_ | refine we_1 ?_ | refine we_n ?_ | refine we_3 ?_ | refine we_c ?_ | refine wo_none ?_ | refine wo_some ?_ | refine wl_cons ?_ | refine wl_nil ?_ | refine we_V ?_ | refine we_own ?_ | refine we_tup ?_ | refine wl_lst ?_ | refine wt_of ?_ | refine wt_or ?_ | refine wt_and ?_ | refine wt_not ?_ | refine we_and ?_ | refine we_or ?_ | refine we_not ?_ | refine we_if ?_ | refine we_isN ?_ | refine we_notN ?_ | refine we_chain ?_ | refine wt_yes ?_ | refine wi_L ?_ | refine wi_T ?_ | refine wi_S ?_ | refine wi_R1 ?_ | refine wi_R2 ?_ | refine wi_R3 ?_ | refine wi_E ?_ | refine we_call ?_ | refine we_callF ?_ | refine we_bm ?_ | refine wg_sb ?_ | refine we_m1 ?_ | refine we_rev ?_ | refine wo_add ?_ | refine wo_sub ?_ | refine wo_neg ?_ | refine wo_cmp ?_ | refine wo_eqI ?_ | refine wo_neI ?_ | refine wo_eqS ?_ | refine wo_neS ?_ | refine wo_eqB ?_ | refine wo_neB ?_ | refine wo_lenL ?_ | refine wo_lenT ?_ | refine wo_lenC ?_ | refine wo_max ?_ | refine wo_min ?_ | refine wo_slL ?_ | refine wo_listC ?_ | refine wo_listL ?_ | refine wo_listT ?_ | refine wo_tupT ?_ | refine wo_tupL ?_ | refine wo_intI ?_ | refine wo_intB ?_ | refine wo_strS ?_ | refine wo_inS ?_ | refine wo_ninS ?_) | ((with_reducible apply we_var); rfl) | ((with_reducible apply ws_frz); rfl) | ((with_reducible apply ws_app); rfl) | ((with_reducible apply ws_extend); rfl) | ((with_reducible apply ws_retA); rfl) | ((with_reducible apply ws_frz0); rfl) | ((with_reducible apply wo_isT); rfl; rfl) | (refine ⟨Nat.le_of_ble_eq_true rfl, ?_⟩) | (with_reducible refine ⟨_, rfl, ?_⟩) | (with_reducible refine wg_nm (Nat.le_of_ble_eq_true rfl) ?_) | (refine ⟨⟨Nat.le_of_ble_eq_true rfl, Nat.le_of_ble_eq_true rfl⟩, ?_⟩) | (with_reducible refine Or.inl ⟨_, rfl, ?_⟩) | (with_reducible refine Or.inr ⟨_, rfl, ?_⟩))
    refine wo_mod (by decide) ?_
    repeat (first | with_reducible (first | refine ws_seq ?_ | refine nxt_nx ?_ | refine lp_nx ?_ | refine lp_ct ?_ | refine lp_bk ?_ | refine lp_rt ?_ | refine lp_rf ?_ | refine nxt_rt ?_ | refine nxt_rf ?_ | refine nxt_bk ?_ | refine nxt_ct ?_ | refine end_nx ?_ | refine end_rt ?_ | refine end_rf ?_ | refine ws_next ?_ | refine ws_brk ?_ | refine ws_cnt ?_ | refine ws_do ?_ | refine ws_ret ?_ | refine ws_retF ?_ | refine ws_retN ?_ | refine ws_set ?_ | refine ws_acc ?_ | refine ws_par ?_ | refine ws_asg ?_ | refine ws_for ?_ | refine ws_if ?_ | refine we_2 ?_ | refine we_1 ?_ | refine we_n ?_ | refine we_3 ?_ | refine we_c ?_ | refine wo_none ?_ | refine wo_some ?_ | refine wl_cons ?_ | refine wl_nil ?_ | refine we_V ?_ | refine we_own ?_ | refine we_tup ?_ | refine wl_lst ?_ | refine wt_of ?_ | refine wt_or ?_ | refine wt_and ?_ | refine wt_not ?_ | refine we_and ?_ | refine we_or ?_ | refine we_not ?_ | refine we_if ?_ | refine we_isN ?_ | refine we_notN ?_ | refine we_chain ?_ | refine wt_yes ?_ | refine wi_L ?_ | refine wi_T ?_ | refine wi_S ?_ | refine wi_R1 ?_ | refine wi_R2 ?_ | refine wi_R3 ?_ | refine wi_E ?_ | refine we_call ?_ | refine we_callF ?_ | refine we_bm ?_ | refine wg_sb ?_ | refine we_m1 ?_ | refine we_rev ?_ | refine wo_add ?_ | refine wo_sub ?_ | refine wo_neg ?_ | refine wo_cmp ?_ | refine wo_eqI ?_ | refine wo_neI ?_ | refine wo_eqS ?_ | refine wo_neS ?_ | refine wo_eqB ?_ | refine wo_neB ?_ | refine wo_lenL ?_ | refine wo_lenT ?_ | refine wo_lenC ?_ | refine wo_max ?_ | refine wo_min ?_ | refine wo_slL ?_ | refine wo_listC ?_ | refine wo_listL ?_ | refine wo_listT ?_ | refine wo_tupT ?_ | refine wo_tupL ?_ | refine wo_intI ?_ | refine wo_intB ?_ | refine wo_strS ?_ | refine wo_inS ?_ | refine wo_ninS ?_) | ((with_reducible apply we_var); rfl) | ((with_reducible apply ws_frz); rfl) | ((with_reducible apply ws_app); rfl) | ((with_reducible apply ws_extend); rfl) | ((with_reducible apply ws_retA); rfl) | ((with_reducible apply ws_frz0); rfl) | ((with_reducible apply wo_isT); rfl; rfl) | (refine ⟨Nat.le_of_ble_eq_true rfl, ?_⟩) | (with_reducible refine ⟨_, rfl, ?_⟩) | (with_reducible refine wg_nm (Nat.le_of_ble_eq_true rfl) ?_) | (refine ⟨⟨Nat.le_of_ble_eq_true rfl, Nat.le_of_ble_eq_true rfl⟩, ?_⟩) | (with_reducible refine Or.inl ⟨_, rfl, ?_⟩) | (with_reducible refine Or.inr ⟨_, rfl, ?_⟩))
    refine ⟨rfl, .val (.str [c]), ?_⟩
    rw [sumV_succ hc]
    show [Sl.val a, .val (.str sb), .val (.str B), .val (.int (((sumV (B.take k) : Int) * 61 + (sb.idxOf c : Int) + 1) % 9973)), .val (.str [c])] = _
    have e : (((sumV (B.take k) : Int) * 61 + (sb.idxOf c : Int) + 1) % 9973) = (((sumV (B.take k) * 61 + sb.idxOf c + 1) % 9973 : Nat) : Int) := by omega
    rw [e]
  · rintro ρ S1 ⟨rfl, x, rfl⟩
    rw [chars_len, List.take_of_length_le (Nat.le_refl _)]
    repeat (first | with_reducible (first | refine ws_seq ?_ | refine nxt_nx ?_ | refine lp_nx ?_ | refine lp_ct ?_ | refine lp_bk ?_ | refine lp_rt ?_ | refine lp_rf ?_ | refine nxt_rt ?_ | refine nxt_rf ?_ | refine nxt_bk ?_ | refine nxt_ct ?_ | refine end_nx ?_ | refine end_rt ?_ | refine end_rf ?_ | refine ws_next ?_ | refine ws_brk ?_ | refine ws_cnt ?_ | refine ws_do ?_ | refine ws_ret ?_ | refine ws_retF ?_ | refine ws_retN ?_ | refine ws_set ?_ | refine ws_acc ?_ | refine ws_par ?_ | refine ws_asg ?_ | refine ws_for ?_ | refine ws_if ?_ | refine we_2 ?_ | refine we_1 ?_ | refine we_n ?_ | refine we_3 ?_ | refine we_c ?_ | refine wo_none ?_ | refine wo_some ?_ | refine wl_cons ?_ | refine wl_nil ?_ | refine we_V ?_ | refine we_own ?_ | refine we_tup ?_ | refine wl_lst ?_ | refine wt_of ?_ | refine wt_or ?_ | refine wt_and ?_ | refine wt_not ?_ | refine we_and ?_ | refine we_or ?_ | refine we_not ?_ | refine we_if ?_ | refine we_isN ?_ | refine we_notN ?_ | refine we_chain ?_ | refine wt_yes ?_ | refine wi_L ?_ | refine wi_T ?_ | refine wi_S ?_ | refine wi_R1 ?_ | refine wi_R2 ?_ | refine wi_R3 ?_ | refine wi_E ?_ | refine we_call ?_ | refine we_callF ?_ | refine we_bm ?_ | refine wg_sb ?_ | refine we_m1 ?_ | refine we_rev ?_ | refine wo_add ?_ | refine wo_sub ?_ | refine wo_neg ?_ | refine wo_cmp ?_ | refine wo_eqI ?_ | refine wo_neI ?_ | refine wo_eqS ?_ | refine wo_neS ?_ | refine wo_eqB ?_ | refine wo_neB ?_ | refine wo_lenL ?_ | refine wo_lenT ?_ | refine wo_lenC ?_ | refine wo_max ?_ | refine wo_min ?_ | refine wo_slL ?_ | refine wo_listC ?_ | refine wo_listL ?_ | refine wo_listT ?_ | refine wo_tupT ?_ | refine wo_tupL ?_ | refine wo_intI ?_ | refine wo_intB ?_ | refine wo_strS ?_ | refine wo_inS ?_ | refine wo_ninS ?_) | ((with_reducible apply we_var); rfl) | ((with_reducible apply ws_frz); rfl) | ((with_reducible apply ws_app); rfl) | ((with_reducible apply ws_extend); rfl) | ((with_reducible apply ws_retA); rfl) | ((with_reducible apply ws_frz0); rfl) | ((with_reducible apply wo_isT); rfl; rfl) | (refine ⟨Nat.le_of_ble_eq_true rfl, ?_⟩) | (with_reducible refine ⟨_, rfl, ?_⟩) | (with_reducible refine wg_nm (Nat.le_of_ble_eq_true rfl) ?_) | (refine ⟨⟨Nat.le_of_ble_eq_true rfl, Nat.le_of_ble_eq_true rfl⟩, ?_⟩) | (with_reducible refine Or.inl ⟨_, rfl, ?_⟩) | (with_reducible refine Or.inr ⟨_, rfl, ?_⟩))
    refine wo_len (by omega) ?_
    repeat (first | with_reducible (first | refine ws_seq ?_ | refine nxt_nx ?_ | refine lp_nx ?_ | refine lp_ct ?_ | refine lp_bk ?_ | refine lp_rt ?_ | refine lp_rf ?_ | refine nxt_rt ?_ | refine nxt_rf ?_ | refine nxt_bk ?_ | refine nxt_ct ?_ | refine end_nx ?_ | refine end_rt ?_ | refine end_rf ?_ | refine ws_next ?_ | refine ws_brk ?_ | refine ws_cnt ?_ | refine ws_do ?_ | refine ws_ret ?_ | refine ws_retF ?_ | refine ws_retN ?_ | refine ws_set ?_ | refine ws_acc ?_ | refine ws_par ?_ | refine ws_asg ?_ | refine ws_for ?_ | refine ws_if ?_ | refine we_2 ?_ | refine we_1 ?_ | refine we_n ?_ | refine we_3 ?_ | refine we_c ?_ | refine wo_none ?_ | refine wo_some ?_ | refine wl_cons ?_ | refine wl_nil ?_ | refine we_V ?_ | refine we_own ?_ | refine we_tup ?_ | refine wl_lst ?_ | refine wt_of ?_ | refine wt_or ?_ | refine wt_and ?_ | refine wt_not ?_ | refine we_and ?_ | refine we_or ?_ | refine we_not ?_ | refine we_if ?_ | refine we_isN ?_ | refine we_notN ?_ | refine we_chain ?_ | refine wt_yes ?_ | refine wi_L ?_ | refine wi_T ?_ | refine wi_S ?_ | refine wi_R1 ?_ | refine wi_R2 ?_ | refine wi_R3 ?_ | refine wi_E ?_ | refine we_call ?_ | refine we_callF ?_ | refine we_bm ?_ | refine wg_sb ?_ | refine we_m1 ?_ | refine we_rev ?_ | refine wo_add ?_ | refine wo_sub ?_ | refine wo_neg ?_ | refine wo_cmp ?_ | refine wo_eqI ?_ | refine wo_neI ?_ | refine wo_eqS ?_ | refine wo_neS ?_ | refine wo_eqB ?_ | refine wo_neB ?_ | refine wo_lenL ?_ | refine wo_lenT ?_ | refine wo_lenC ?_ | refine wo_max ?_ | refine wo_min ?_ | refine wo_slL ?_ | refine wo_listC ?_ | refine wo_listL ?_ | refine wo_listT ?_ | refine wo_tupT ?_ | refine wo_tupL ?_ | refine wo_intI ?_ | refine wo_intB ?_ | refine wo_strS ?_ | refine wo_inS ?_ | refine wo_ninS ?_) | ((with_reducible apply we_var); rfl) | ((with_reducible apply ws_frz); rfl) | ((with_reducible apply ws_app); rfl) | ((with_reducible apply ws_extend); rfl) | ((with_reducible apply ws_retA); rfl) | ((with_reducible apply ws_frz0); rfl) | ((with_reducible apply wo_isT); rfl; rfl) | (refine ⟨Nat.le_of_ble_eq_true rfl, ?_⟩) | (with_reducible refine ⟨_, rfl, ?_⟩) | (with_reducible refine wg_nm (Nat.le_of_ble_eq_true rfl) ?_) | (refine ⟨⟨Nat.le_of_ble_eq_true rfl, Nat.le_of_ble_eq_true rfl⟩, ?_⟩) | (with_reducible refine Or.inl ⟨_, rfl, ?_⟩) | (with_reducible refine Or.inr ⟨_, rfl, ?_⟩))
    refine wo_strI ⟨by omega, by omega⟩ ?_
    have l1 : (numL B.length).length ≤ 6 := numL_le (by omega) (by omega)
    have l2 : (numL (sumV B)).length ≤ 6 := numL_le (by omega) (by have := sumV_lt B; omega)
    rw [Int.toNat_natCast]
    repeat (first | with_reducible (first | refine ws_seq ?_ | refine nxt_nx ?_ | refine lp_nx ?_ | refine lp_ct ?_ | refine lp_bk ?_ | refine lp_rt ?_ | refine lp_rf ?_ | refine nxt_rt ?_ | refine nxt_rf ?_ | refine nxt_bk ?_ | refine nxt_ct ?_ | refine end_nx ?_ | refine end_rt ?_ | refine end_rf ?_ | refine ws_next ?_ | refine ws_brk ?_ | refine ws_cnt ?_ | refine ws_do ?_ | refine ws_ret ?_ | refine ws_retF ?_ | refine ws_retN ?_ | refine ws_set ?_ | refine ws_acc ?_ | refine ws_par ?_ | refine ws_asg ?_ | refine ws_for ?_ | refine ws_if ?_ | refine we_2 ?_ | refine we_1 ?_ | refine we_n ?_ | refine we_3 ?_ | refine we_c ?_ | refine wo_none ?_ | refine wo_some ?_ | refine wl_cons ?_ | refine wl_nil ?_ | refine we_V ?_ | refine we_own ?_ | refine we_tup ?_ | refine wl_lst ?_ | refine wt_of ?_ | refine wt_or ?_ | refine wt_and ?_ | refine wt_not ?_ | refine we_and ?_ | refine we_or ?_ | refine we_not ?_ | refine we_if ?_ | refine we_isN ?_ | refine we_notN ?_ | refine we_chain ?_ | refine wt_yes ?_ | refine wi_L ?_ | refine wi_T ?_ | refine wi_S ?_ | refine wi_R1 ?_ | refine wi_R2 ?_ | refine wi_R3 ?_ | refine wi_E ?_ | refine we_call ?_ | refine we_callF ?_ | refine we_bm ?_ | refine wg_sb ?_ | refine we_m1 ?_ | refine we_rev ?_ | refine wo_add ?_ | refine wo_sub ?_ | refine wo_neg ?_ | refine wo_cmp ?_ | refine wo_eqI ?_ | refine wo_neI ?_ | refine wo_eqS ?_ | refine wo_neS ?_ | refine wo_eqB ?_ | refine wo_neB ?_ | refine wo_lenL ?_ | refine wo_lenT ?_ | refine wo_lenC ?_ | refine wo_max ?_ | refine wo_min ?_ | refine wo_slL ?_ | refine wo_listC ?_ | refine wo_listL ?_ | refine wo_listT ?_ | refine wo_tupT ?_ | refine wo_tupL ?_ | refine wo_intI ?_ | refine wo_intB ?_ | refine wo_strS ?_ | refine wo_inS ?_ | refine wo_ninS ?_) | ((with_reducible apply we_var); rfl) | ((with_reducible apply ws_frz); rfl) | ((with_reducible apply ws_app); rfl) | ((with_reducible apply ws_extend); rfl) | ((with_reducible apply ws_retA); rfl) | ((with_reducible apply ws_frz0); rfl) | ((with_reducible apply wo_isT); rfl; rfl) | (refine ⟨Nat.le_of_ble_eq_true rfl, ?_⟩) | (with_reducible refine ⟨_, rfl, ?_⟩) | (with_reducible refine wg_nm (Nat.le_of_ble_eq_true rfl) ?_) | (refine ⟨⟨Nat.le_of_ble_eq_true rfl, Nat.le_of_ble_eq_true rfl⟩, ?_⟩) | (with_reducible refine Or.inl ⟨_, rfl, ?_⟩) | (with_reducible refine Or.inr ⟨_, rfl, ?_⟩))
    refine wo_addS (by simp; omega) ?_
    repeat (first | with_reducible (first | refine ws_seq ?_ | refine nxt_nx ?_ | refine lp_nx ?_ | refine lp_ct ?_ | refine lp_bk ?_ | refine lp_rt ?_ | refine lp_rf ?_ | refine nxt_rt ?_ | refine nxt_rf ?_ | refine nxt_bk ?_ | refine nxt_ct ?_ | refine end_nx ?_ | refine end_rt ?_ | refine end_rf ?_ | refine ws_next ?_ | refine ws_brk ?_ | refine ws_cnt ?_ | refine ws_do ?_ | refine ws_ret ?_ | refine ws_retF ?_ | refine ws_retN ?_ | refine ws_set ?_ | refine ws_acc ?_ | refine ws_par ?_ | refine ws_asg ?_ | refine ws_for ?_ | refine ws_if ?_ | refine we_2 ?_ | refine we_1 ?_ | refine we_n ?_ | refine we_3 ?_ | refine we_c ?_ | refine wo_none ?_ | refine wo_some ?_ | refine wl_cons ?_ | refine wl_nil ?_ | refine we_V ?_ | refine we_own ?_ | refine we_tup ?_ | refine wl_lst ?_ | refine wt_of ?_ | refine wt_or ?_ | refine wt_and ?_ | refine wt_not ?_ | refine we_and ?_ | refine we_or ?_ | refine we_not ?_ | refine we_if ?_ | refine we_isN ?_ | refine we_notN ?_ | refine we_chain ?_ | refine wt_yes ?_ | refine wi_L ?_ | refine wi_T ?_ | refine wi_S ?_ | refine wi_R1 ?_ | refine wi_R2 ?_ | refine wi_R3 ?_ | refine wi_E ?_ | refine we_call ?_ | refine we_callF ?_ | refine we_bm ?_ | refine wg_sb ?_ | refine we_m1 ?_ | refine we_rev ?_ | refine wo_add ?_ | refine wo_sub ?_ | refine wo_neg ?_ | refine wo_cmp ?_ | refine wo_eqI ?_ | refine wo_neI ?_ | refine wo_eqS ?_ | refine wo_neS ?_ | refine wo_eqB ?_ | refine wo_neB ?_ | refine wo_lenL ?_ | refine wo_lenT ?_ | refine wo_lenC ?_ | refine wo_max ?_ | refine wo_min ?_ | refine wo_slL ?_ | refine wo_listC ?_ | refine wo_listL ?_ | refine wo_listT ?_ | refine wo_tupT ?_ | refine wo_tupL ?_ | refine wo_intI ?_ | refine wo_intB ?_ | refine wo_strS ?_ | refine wo_inS ?_ | refine wo_ninS ?_) | ((with_reducible apply we_var); rfl) | ((with_reducible apply ws_frz); rfl) | ((with_reducible apply ws_app); rfl) | ((with_reducible apply ws_extend); rfl) | ((with_reducible apply ws_retA); rfl) | ((with_reducible apply ws_frz0); rfl) | ((with_reducible apply wo_isT); rfl; rfl) | (refine ⟨Nat.le_of_ble_eq_true rfl, ?_⟩) | (with_reducible refine ⟨_, rfl, ?_⟩) | (with_reducible refine wg_nm (Nat.le_of_ble_eq_true rfl) ?_) | (refine ⟨⟨Nat.le_of_ble_eq_true rfl, Nat.le_of_ble_eq_true rfl⟩, ?_⟩) | (with_reducible refine Or.inl ⟨_, rfl, ?_⟩) | (with_reducible refine Or.inr ⟨_, rfl, ?_⟩))
    refine wo_strI ⟨by omega, by have := sumV_lt B; omega⟩ ?_
    rw [Int.toNat_natCast]
    refine wo_addS (by simp; omega) ?_
    repeat (first | with_reducible (first | refine ws_seq ?_ | refine nxt_nx ?_ | refine lp_nx ?_ | refine lp_ct ?_ | refine lp_bk ?_ | refine lp_rt ?_ | refine lp_rf ?_ | refine nxt_rt ?_ | refine nxt_rf ?_ | refine nxt_bk ?_ | refine nxt_ct ?_ | refine end_nx ?_ | refine end_rt ?_ | refine end_rf ?_ | refine ws_next ?_ | refine ws_brk ?_ | refine ws_cnt ?_ | refine ws_do ?_ | refine ws_ret ?_ | refine ws_retF ?_ | refine ws_retN ?_ | refine ws_set ?_ | refine ws_acc ?_ | refine ws_par ?_ | refine ws_asg ?_ | refine ws_for ?_ | refine ws_if ?_ | refine we_2 ?_ | refine we_1 ?_ | refine we_n ?_ | refine we_3 ?_ | refine we_c ?_ | refine wo_none ?_ | refine wo_some ?_ | refine wl_cons ?_ | refine wl_nil ?_ | refine we_V ?_ | refine we_own ?_ | refine we_tup ?_ | refine wl_lst ?_ | refine wt_of ?_ | refine wt_or ?_ | refine wt_and ?_ | refine wt_not ?_ | refine we_and ?_ | refine we_or ?_ | refine we_not ?_ | refine we_if ?_ | refine we_isN ?_ | refine we_notN ?_ | refine we_chain ?_ | refine wt_yes ?_ | refine wi_L ?_ | refine wi_T ?_ | refine wi_S ?_ | refine wi_R1 ?_ | refine wi_R2 ?_ | refine wi_R3 ?_ | refine wi_E ?_ | refine we_call ?_ | refine we_callF ?_ | refine we_bm ?_ | refine wg_sb ?_ | refine we_m1 ?_ | refine we_rev ?_ | refine wo_add ?_ | refine wo_sub ?_ | refine wo_neg ?_ | refine wo_cmp ?_ | refine wo_eqI ?_ | refine wo_neI ?_ | refine wo_eqS ?_ | refine wo_neS ?_ | refine wo_eqB ?_ | refine wo_neB ?_ | refine wo_lenL ?_ | refine wo_lenT ?_ | refine wo_lenC ?_ | refine wo_max ?_ | refine wo_min ?_ | refine wo_slL ?_ | refine wo_listC ?_ | refine wo_listL ?_ | refine wo_listT ?_ | refine wo_tupT ?_ | refine wo_tupL ?_ | refine wo_intI ?_ | refine wo_intB ?_ | refine wo_strS ?_ | refine wo_inS ?_ | refine wo_ninS ?_) | ((with_reducible apply we_var); rfl) | ((with_reducible apply ws_frz); rfl) | ((with_reducible apply ws_app); rfl) | ((with_reducible apply ws_extend); rfl) | ((with_reducible apply ws_retA); rfl) | ((with_reducible apply ws_frz0); rfl) | ((with_reducible apply wo_isT); rfl; rfl) | (refine ⟨Nat.le_of_ble_eq_true rfl, ?_⟩) | (with_reducible refine ⟨_, rfl, ?_⟩) | (with_reducible refine wg_nm (Nat.le_of_ble_eq_true rfl) ?_) | (refine ⟨⟨Nat.le_of_ble_eq_true rfl, Nat.le_of_ble_eq_true rfl⟩, ?_⟩) | (with_reducible refine Or.inl ⟨_, rfl, ?_⟩) | (with_reducible refine Or.inr ⟨_, rfl, ?_⟩))
    refine wo_addS (by simp; omega) ?_
    repeat (first | with_reducible (first | refine ws_seq ?_ | refine nxt_nx ?_ | refine lp_nx ?_ | refine lp_ct ?_ | refine lp_bk ?_ | refine lp_rt ?_ | refine lp_rf ?_ | refine nxt_rt ?_ | refine nxt_rf ?_ | refine nxt_bk ?_ | refine nxt_ct ?_ | refine end_nx ?_ | refine end_rt ?_ | refine end_rf ?_ | refine ws_next ?_ | refine ws_brk ?_ | refine ws_cnt ?_ | refine ws_do ?_ | refine ws_ret ?_ | refine ws_retF ?_ | refine ws_retN ?_ | refine ws_set ?_ | refine ws_acc ?_ | refine ws_par ?_ | refine ws_asg ?_ | refine ws_for ?_ | refine ws_if ?_ | refine we_2 ?_ | refine we_1 ?_ | refine we_n ?_ | refine we_3 ?_ | refine we_c ?_ | refine wo_none ?_ | refine wo_some ?_ | refine wl_cons ?_ | refine wl_nil ?_ | refine we_V ?_ | refine we_own ?_ | refine we_tup ?_ | refine wl_lst ?_ | refine wt_of ?_ | refine wt_or ?_ | refine wt_and ?_ | refine wt_not ?_ | refine we_and ?_ | refine we_or ?_ | refine we_not ?_ | refine we_if ?_ | refine we_isN ?_ | refine we_notN ?_ | refine we_chain ?_ | refine wt_yes ?_ | refine wi_L ?_ | refine wi_T ?_ | refine wi_S ?_ | refine wi_R1 ?_ | refine wi_R2 ?_ | refine wi_R3 ?_ | refine wi_E ?_ | refine we_call ?_ | refine we_callF ?_ | refine we_bm ?_ | refine wg_sb ?_ | refine we_m1 ?_ | refine we_rev ?_ | refine wo_add ?_ | refine wo_sub ?_ | refine wo_neg ?_ | refine wo_cmp ?_ | refine wo_eqI ?_ | refine wo_neI ?_ | refine wo_eqS ?_ | refine wo_neS ?_ | refine wo_eqB ?_ | refine wo_neB ?_ | refine wo_lenL ?_ | refine wo_lenT ?_ | refine wo_lenC ?_ | refine wo_max ?_ | refine wo_min ?_ | refine wo_slL ?_ | refine wo_listC ?_ | refine wo_listL ?_ | refine wo_listT ?_ | refine wo_tupT ?_ | refine wo_tupL ?_ | refine wo_intI ?_ | refine wo_intB ?_ | refine wo_strS ?_ | refine wo_inS ?_ | refine wo_ninS ?_) | ((with_reducible apply we_var); rfl) | ((with_reducible apply ws_frz); rfl) | ((with_reducible apply ws_app); rfl) | ((with_reducible apply ws_extend); rfl) | ((with_reducible apply ws_retA); rfl) | ((with_reducible apply ws_frz0); rfl) | ((with_reducible apply wo_isT); rfl; rfl) | (refine ⟨Nat.le_of_ble_eq_true rfl, ?_⟩) | (with_reducible refine ⟨_, rfl, ?_⟩) | (with_reducible refine wg_nm (Nat.le_of_ble_eq_true rfl) ?_) | (refine ⟨⟨Nat.le_of_ble_eq_true rfl, Nat.le_of_ble_eq_true rfl⟩, ?_⟩) | (with_reducible refine Or.inl ⟨_, rfl, ?_⟩) | (with_reducible refine Or.inr ⟨_, rfl, ?_⟩))
    refine wo_addS (by simp; omega) ?_
    repeat (first | with_reducible (first | refine ws_seq ?_ | refine nxt_nx ?_ | refine lp_nx ?_ | refine lp_ct ?_ | refine lp_bk ?_ | refine lp_rt ?_ | refine lp_rf ?_ | refine nxt_rt ?_ | refine nxt_rf ?_ | refine nxt_bk ?_ | refine nxt_ct ?_ | refine end_nx ?_ | refine end_rt ?_ | refine end_rf ?_ | refine ws_next ?_ | refine ws_brk ?_ | refine ws_cnt ?_ | refine ws_do ?_ | refine ws_ret ?_ | refine ws_retF ?_ | refine ws_retN ?_ | refine ws_set ?_ | refine ws_acc ?_ | refine ws_par ?_ | refine ws_asg ?_ | refine ws_for ?_ | refine ws_if ?_ | refine we_2 ?_ | refine we_1 ?_ | refine we_n ?_ | refine we_3 ?_ | refine we_c ?_ | refine wo_none ?_ | refine wo_some ?_ | refine wl_cons ?_ | refine wl_nil ?_ | refine we_V ?_ | refine we_own ?_ | refine we_tup ?_ | refine wl_lst ?_ | refine wt_of ?_ | refine wt_or ?_ | refine wt_and ?_ | refine wt_not ?_ | refine we_and ?_ | refine we_or ?_ | refine we_not ?_ | refine we_if ?_ | refine we_isN ?_ | refine we_notN ?_ | refine we_chain ?_ | refine wt_yes ?_ | refine wi_L ?_ | refine wi_T ?_ | refine wi_S ?_ | refine wi_R1 ?_ | refine wi_R2 ?_ | refine wi_R3 ?_ | refine wi_E ?_ | refine we_call ?_ | refine we_callF ?_ | refine we_bm ?_ | refine wg_sb ?_ | refine we_m1 ?_ | refine we_rev ?_ | refine wo_add ?_ | refine wo_sub ?_ | refine wo_neg ?_ | refine wo_cmp ?_ | refine wo_eqI ?_ | refine wo_neI ?_ | refine wo_eqS ?_ | refine wo_neS ?_ | refine wo_eqB ?_ | refine wo_neB ?_ | refine wo_lenL ?_ | refine wo_lenT ?_ | refine wo_lenC ?_ | refine wo_max ?_ | refine wo_min ?_ | refine wo_slL ?_ | refine wo_listC ?_ | refine wo_listL ?_ | refine wo_listT ?_ | refine wo_tupT ?_ | refine wo_tupL ?_ | refine wo_intI ?_ | refine wo_intB ?_ | refine wo_strS ?_ | refine wo_inS ?_ | refine wo_ninS ?_) | ((with_reducible apply we_var); rfl) | ((with_reducible apply ws_frz); rfl) | ((with_reducible apply ws_app); rfl) | ((with_reducible apply ws_extend); rfl) | ((with_reducible apply ws_retA); rfl) | ((with_reducible apply ws_frz0); rfl) | ((with_reducible apply wo_isT); rfl; rfl) | (refine ⟨Nat.le_of_ble_eq_true rfl, ?_⟩) | (with_reducible refine ⟨_, rfl, ?_⟩) | (with_reducible refine wg_nm (Nat.le_of_ble_eq_true rfl) ?_) | (refine ⟨⟨Nat.le_of_ble_eq_true rfl, Nat.le_of_ble_eq_true rfl⟩, ?_⟩) | (with_reducible refine Or.inl ⟨_, rfl, ?_⟩) | (with_reducible refine Or.inr ⟨_, rfl, ?_⟩))
    refine wo_addS (by simp; omega) ?_
    repeat (first | with_reducible (first | refine ws_seq ?_ | refine nxt_nx ?_ | refine lp_nx ?_ | refine lp_ct ?_ | refine lp_bk ?_ | refine lp_rt ?_ | refine lp_rf ?_ | refine nxt_rt ?_ | refine nxt_rf ?_ | refine nxt_bk ?_ | refine nxt_ct ?_ | refine end_nx ?_ | refine end_rt ?_ | refine end_rf ?_ | refine ws_next ?_ | refine ws_brk ?_ | refine ws_cnt ?_ | refine ws_do ?_ | refine ws_ret ?_ | refine ws_retF ?_ | refine ws_retN ?_ | refine ws_set ?_ | refine ws_acc ?_ | refine ws_par ?_ | refine ws_asg ?_ | refine ws_for ?_ | refine ws_if ?_ | refine we_2 ?_ | refine we_1 ?_ | refine we_n ?_ | refine we_3 ?_ | refine we_c ?_ | refine wo_none ?_ | refine wo_some ?_ | refine wl_cons ?_ | refine wl_nil ?_ | refine we_V ?_ | refine we_own ?_ | refine we_tup ?_ | refine wl_lst ?_ | refine wt_of ?_ | refine wt_or ?_ | refine wt_and ?_ | refine wt_not ?_ | refine we_and ?_ | refine we_or ?_ | refine we_not ?_ | refine we_if ?_ | refine we_isN ?_ | refine we_notN ?_ | refine we_chain ?_ | refine wt_yes ?_ | refine wi_L ?_ | refine wi_T ?_ | refine wi_S ?_ | refine wi_R1 ?_ | refine wi_R2 ?_ | refine wi_R3 ?_ | refine wi_E ?_ | refine we_call ?_ | refine we_callF ?_ | refine we_bm ?_ | refine wg_sb ?_ | refine we_m1 ?_ | refine we_rev ?_ | refine wo_add ?_ | refine wo_sub ?_ | refine wo_neg ?_ | refine wo_cmp ?_ | refine wo_eqI ?_ | refine wo_neI ?_ | refine wo_eqS ?_ | refine wo_neS ?_ | refine wo_eqB ?_ | refine wo_neB ?_ | refine wo_lenL ?_ | refine wo_lenT ?_ | refine wo_lenC ?_ | refine wo_max ?_ | refine wo_min ?_ | refine wo_slL ?_ | refine wo_listC ?_ | refine wo_listL ?_ | refine wo_listT ?_ | refine wo_tupT ?_ | refine wo_tupL ?_ | refine wo_intI ?_ | refine wo_intB ?_ | refine wo_strS ?_ | refine wo_inS ?_ | refine wo_ninS ?_) | ((with_reducible apply we_var); rfl) | ((with_reducible apply ws_frz); rfl) | ((with_reducible apply ws_app); rfl) | ((with_reducible apply ws_extend); rfl) | ((with_reducible apply ws_retA); rfl) | ((with_reducible apply ws_frz0); rfl) | ((with_reducible apply wo_isT); rfl; rfl) | (refine ⟨Nat.le_of_ble_eq_true rfl, ?_⟩) | (with_reducible refine ⟨_, rfl, ?_⟩) | (with_reducible refine wg_nm (Nat.le_of_ble_eq_true rfl) ?_) | (refine ⟨⟨Nat.le_of_ble_eq_true rfl, Nat.le_of_ble_eq_true rfl⟩, ?_⟩) | (with_reducible refine Or.inl ⟨_, rfl, ?_⟩) | (with_reducible refine Or.inr ⟨_, rfl, ?_⟩))
    unfold packV
    rw [hB]
    exact ⟨rfl, rfl⟩
theorem lpacked_ok {S : Sto} {a : D} {fs : List (List Nat)} (ha : lstOf S a = some (fs.map .str)) (h : Fs fs 900000) : W (F_lpacked [a] S) fun o S' => o = .v (.str (packV fs)) ∧ S' = S := lpacked_ok' ha h.le h.body.1 h.body.2
theorem packV_len {fs : List (List Nat)} {n : Nat} (h : Fs fs n) (hn : n ≤ 900000) : (packV fs).length ≤ n + 15 := by
  obtain ⟨hb, hbl⟩ := h.body
  have l1 : (numL (joinD [124] fs).length).length ≤ 6 := numL_le (by omega) (by omega)
  have l2 : (numL (sumV (joinD [124] fs))).length ≤ 6 := numL_le (by omega) (by have := sumV_lt (joinD [124] fs); omega)
  unfold packV
  simp
  omega
theorem packV_okS {fs : List (List Nat)} {n : Nat} (h : Fs fs n) : okS (packV fs) := by
  obtain ⟨hb, hbl⟩ := h.body
  have hd : ∀ n, ∀ c ∈ numL n, c < 1114112 := fun n c hc => by
    have := dg_iff.mp (numL_dg hc)
    omega
  intro c hc
  unfold packV at hc
  simp only [List.mem_append, List.mem_singleton] at hc
  rcases hc with ((((hc | hc) | hc) | hc) | hc) | hc
  · exact hd _ c hc
  · omega
  · exact hd _ c hc
  · omega
  · have := sb_lt c (hb c hc)
    omega
  · omega
end AH

set_option maxRecDepth 100000
set_option maxHeartbeats 4000000
/-! texts that are letters, and that are none -/
namespace AH
open PySem L2 TL
theorem join_cons {s p : List Nat} {qs : List (List Nat)} (h : qs ≠ []) : joinD s (p :: qs) = p ++ (s ++ joinD s qs) := by
  cases qs with
  | nil => exact absurd rfl h
  | cons q r => rfl
theorem join_cons1 {s p : List Nat} {x : Nat} : ∀ {qs : List (List Nat)}, joinD s ((x :: p) :: qs) = x :: joinD s (p :: qs)
  | [] => rfl
  | _ :: _ => rfl
theorem join_split {c : Nat} : ∀ z : List Nat, joinD [c] (splitC c z) = z
  | [] => rfl
  | x :: z => by
    unfold splitC
    split
    · rename_i h
      rw [join_cons (splitC_ne c z), join_split z, h]
      rfl
    · cases e : splitC c z with
      | nil => exact absurd e (splitC_ne c z)
      | cons p ps =>
        show joinD [c] ((x :: p) :: ps) = _
        rw [join_cons1, ← e, join_split z]
theorem split_free {c : Nat} : ∀ {z p : List Nat}, p ∈ splitC c z → c ∉ p
  | [], p, h => by
    rw [splitC, List.mem_singleton] at h
    rw [h]
    exact fun q => nomatch q
  | x :: z, p, h => by
    unfold splitC at h
    split at h
    · rcases List.mem_cons.mp h with h | h
      · rw [h]
        exact fun q => nomatch q
      · exact split_free h
    · rename_i hx
      cases e : splitC c z with
      | nil => exact absurd e (splitC_ne c z)
      | cons q qs =>
        rw [e] at h
        rcases List.mem_cons.mp h with h | h
        · rw [h]
          intro r
          rcases List.mem_cons.mp r with r | r
          · exact hx r.symm
          · exact split_free (z := z) (p := q) (by rw [e]; exact List.mem_cons_self ..) r
        · exact split_free (z := z) (p := p) (by rw [e]; exact List.mem_cons_of_mem _ h)
theorem split_count {c : Nat} : ∀ z : List Nat, (splitC c z).length = z.count c + 1
  | [] => rfl
  | x :: z => by
    have ih := split_count (c := c) z
    unfold splitC
    split
    · rename_i h
      rw [h, List.length_cons, ih, List.count_cons_self]
    · rename_i h
      rw [List.count_cons_of_ne h]
      cases e : splitC c z with
      | nil => exact absurd e (splitC_ne c z)
      | cons q qs =>
        rw [e] at ih
        exact ih
theorem sum_split {c : Nat} : ∀ z : List Nat, ((splitC c z).map (·.length)).sum + (splitC c z).length = z.length + 1
  | [] => rfl
  | x :: z => by
    have ih := sum_split (c := c) z
    unfold splitC
    split
    · rw [List.map_cons, List.sum_cons, List.length_cons, List.length_cons]
      show 0 + _ + _ = _
      omega
    · cases e : splitC c z with
      | nil => exact absurd e (splitC_ne c z)
      | cons q qs =>
        rw [e] at ih
        simp at ih ⊢
        omega
/-! figures are told in one way -/
theorem decV_snoc (w : List Nat) (c : Nat) : decV (w ++ [c]) = decV w * 10 + (c - 48) := by
  unfold decV
  rw [List.foldl_append]
  rfl
theorem num_of_dec : ∀ (n : Nat) (w : List Nat), w.length = n → w ≠ [] → (∀ c ∈ w, c ∈ dg) → (w.head? ≠ some 48 ∨ w = [48]) → numL (decV w) = w
  | 0, w, hn, h, _, _ => absurd (List.length_eq_zero_iff.mp hn) h
  | n + 1, w, hn, h, hd, hh => by
    have e : w = w.dropLast ++ [w.getLast h] := (List.dropLast_concat_getLast h).symm
    generalize hu : w.dropLast = u at e
    generalize hx : w.getLast h = x at e
    have xd : 48 ≤ x ∧ x ≤ 57 := dg_iff.mp (hd x (by rw [← hx]; exact List.getLast_mem h))
    have ud : ∀ c ∈ u, c ∈ dg := fun c hc => hd c (by rw [e]; exact List.mem_append_left _ hc)
    by_cases hu0 : u = []
    · subst hu0
      rw [e]
      show numL (0 * 10 + (x - 48)) = [x]
      rw [numL_lt (by omega)]
      congr 1
      omega
    · have ulen : u.length = n := by
        have := congrArg List.length e
        simp at this
        omega
      have uh : u.head? ≠ some 48 := by
        rcases hh with hh | hh
        · rw [e] at hh
          cases u with
          | nil => exact absurd rfl hu0
          | cons y ys => exact hh
        · rw [hh] at e
          cases u with
          | nil => exact absurd rfl hu0
          | cons y ys =>
            have := congrArg List.length e
            simp at this
      have ih := num_of_dec n u ulen hu0 ud (.inl uh)
      have pos : 0 < decV u := by
        refine Nat.pos_of_ne_zero fun z => ?_
        rw [z, numL_lt (by omega)] at ih
        exact uh (by rw [← ih]; rfl)
      rw [e, decV_snoc, numL_step (by omega)]
      have e1 : (decV u * 10 + (x - 48)) / 10 = decV u := by omega
      have e2 : 48 + (decV u * 10 + (x - 48)) % 10 = x := by omega
      rw [e1, e2, ih]
theorem numV_back {w : List Nat} {n : Nat} (h : numV w = some n) : w = numL n := by
  unfold numV at h
  split at h
  · rename_i q
    cases h
    exact (num_of_dec _ w rfl (by intro z; rw [z] at q; simp at q) q.2.1 q.2.2).symm
  · cases h
theorem sb_sg {c : Nat} (h : c ∈ sb) (n : c ≠ 124) : c ∈ sg := by
  have e : sb = sg ++ [124] := rfl
  rw [e] at h
  rcases List.mem_append.mp h with h | h
  · exact h
  · exact absurd (List.mem_singleton.mp h) n
theorem fs_split {B : List Nat} (h : ∀ c ∈ B, c ∈ sb) : Fs (splitC 124 B) (B.length + 1) := ⟨splitC_ne _ _, fun z hz c hc => sb_sg (h c (split_mem hz hc)) fun e => split_free hz (by rw [← e]; exact hc), by rw [sum_split]; exact Nat.le_refl _⟩
theorem pack_split (B : List Nat) : packV (splitC 124 B) = ((((numL B.length ++ [46]) ++ numL (sumV B)) ++ [46]) ++ B) ++ [33] := by
  unfold packV
  rw [join_split]
theorem unpack_is {t : List Nat} {fs : List (List Nat)} (h : unpackV t = some fs) : t = packV fs ∧ Fs fs (t.length + 1) := by
  unfold unpackV at h
  split at h
  · rename_i a b c e
    split at h
    · rename_i q
      cases h
      obtain ⟨h1, h2, h3, h4⟩ := q
      generalize hB : c.take (c.length - 1) = B at h2 h3 h4 ⊢
      have ec : c = B ++ [33] := by
        rw [← hB, ← h1]
        exact (List.take_append_drop _ _).symm
      have et : t = a ++ 46 :: (b ++ 46 :: c) := by
        have := join_split (c := 46) t
        rw [e] at this
        rw [← this]
        rfl
      have ea := numV_back h3
      have eb := numV_back h4
      refine ⟨?_, (fs_split h2).mono ?_⟩
      · rw [pack_split, ← ea, ← eb, et, ec]
        simp
      · rw [et, ec]
        simp
        omega
    · cases h
  · cases h
/-- the sign that ends a letter stands nowhere else -/
theorem pack_end {fs : List (List Nat)} {n : Nat} (h : Fs fs n) : ∃ u, packV fs = u ++ [33] ∧ (33 : Nat) ∉ u := by
  refine ⟨_, rfl, fun q => ?_⟩
  simp only [List.mem_append, List.mem_singleton] at q
  rcases q with (((q | q) | q) | q) | q
  · exact numL_free (by omega) q
  · omega
  · exact numL_free (by omega) q
  · omega
  · exact absurd (h.body.1 _ q) (by decide)
theorem unpack_cut {fs : List (List Nat)} {n e : Nat} (h : Fs fs n) (he : e < (packV fs).length) : unpackV ((packV fs).take e) = none := by
  cases q : unpackV ((packV fs).take e) with
  | none => rfl
  | some gs =>
    obtain ⟨h1, h2⟩ := unpack_is q
    obtain ⟨u, hu, hn⟩ := pack_end h
    obtain ⟨v, hv, _⟩ := pack_end h2
    rw [hv] at h1
    have hm : (33 : Nat) ∈ (packV fs).take e := by
      rw [h1]
      simp
    have hl : (packV fs).length = u.length + 1 := by
      rw [hu]
      simp
    rw [hu, List.take_append_of_le_length (by omega)] at hm
    exact absurd (List.mem_of_mem_take hm) hn
/-! the laws' own reader -/
def lunpV (t : List Nat) : Option (List (List Nat)) := if t.count 46 = 2 ∧ t.drop (t.length - 1) = [33] then (match splitC 46 (t.take (t.length - 1)) with
  | [_, _, B] => if (∀ x ∈ B, x ∈ sb) ∧ t = packV (splitC 124 B) then some (splitC 124 B) else none
  | _ => none) else none
theorem split46 {a b B : List Nat} (ha : (46 : Nat) ∉ a) (hb : (46 : Nat) ∉ b) (hB : (46 : Nat) ∉ B) : splitC 46 ((((a ++ [46]) ++ b) ++ [46]) ++ B) = [a, b, B] := by
  have e1 : (((a ++ [46]) ++ b) ++ [46]) ++ B = a ++ 46 :: (b ++ 46 :: B) := by simp
  rw [e1, split_app ha, split_app hb, split_none hB]
theorem take_snoc (u : List Nat) (x : Nat) : (u ++ [x]).take ((u ++ [x]).length - 1) = u := by simp
theorem drop_snoc (u : List Nat) (x : Nat) : (u ++ [x]).drop ((u ++ [x]).length - 1) = [x] := by simp
theorem lunp_pack {fs : List (List Nat)} {n : Nat} (h : Fs fs n) : lunpV (packV fs) = some fs := by
  obtain ⟨hb, hl⟩ := h.body
  have n46 : ∀ n, (46 : Nat) ∉ numL n := fun n => numL_free (by omega)
  have nB : (46 : Nat) ∉ joinD [124] fs := fun q => absurd (hb _ q) (by decide)
  have et : (packV fs).take ((packV fs).length - 1) = (((numL (joinD [124] fs).length ++ [46]) ++ numL (sumV (joinD [124] fs))) ++ [46]) ++ joinD [124] fs := take_snoc _ 33
  have ed : (packV fs).drop ((packV fs).length - 1) = [33] := drop_snoc _ 33
  have hc : (packV fs).count 46 = 2 := by
    have e := split46 (n46 (joinD [124] fs).length) (n46 (sumV (joinD [124] fs))) (B := joinD [124] fs ++ [33]) (by
      intro q
      rcases List.mem_append.mp q with q | q
      · exact nB q
      · exact absurd (List.mem_singleton.mp q) (by decide))
    have ep : packV fs = (((numL (joinD [124] fs).length ++ [46]) ++ numL (sumV (joinD [124] fs))) ++ [46]) ++ (joinD [124] fs ++ [33]) := by
      unfold packV
      simp
    have := split_count (c := 46) (packV fs)
    rw [ep, e] at this
    rw [ep]
    simp at this ⊢
    omega
  unfold lunpV
  rw [if_pos ⟨hc, ed⟩, et, split46 (n46 _) (n46 _) nB]
  dsimp only
  rw [split_join h.ne fun z hz q => absurd (h.sg z hz _ q) (by decide), if_pos ⟨hb, rfl⟩]
theorem lunp_is {t : List Nat} {fs : List (List Nat)} (h : lunpV t = some fs) : t = packV fs ∧ Fs fs (t.length + 1) := by
  unfold lunpV at h
  split at h
  · split at h
    · rename_i B e
      split at h
      · rename_i q
        cases h
        refine ⟨q.2, (fs_split q.1).mono ?_⟩
        have := split_len (c := 46) (z := t.take (t.length - 1)) (p := B) (by rw [e]; simp)
        simp at this
        omega
      · cases h
    · cases h
  · cases h
theorem unp_eq {t : List Nat} (ht : t.length ≤ 800000) : lunpV t = unpackV t := by
  cases h1 : unpackV t with
  | some fs =>
    obtain ⟨e, f⟩ := unpack_is h1
    rw [e]
    exact lunp_pack f
  | none =>
    cases h2 : lunpV t with
    | none => rfl
    | some gs =>
      obtain ⟨e, f⟩ := lunp_is h2
      rw [e, unpack_pack (f.mono (by omega))] at h1
      cases h1
end AH

set_option maxRecDepth 100000
set_option maxHeartbeats 4000000
namespace K06
open AH PySem L2 TL
def fl (c : Nat) : List Str := match c with
  | _ => []
def b_sum_of : EvS := (sSeq (sAsg (eC (.int 0)) (gNm 1))
  (sSeq (sFor (iS (eVar 0)) (gNm 2) (sAsg (e2 fMod (e2 fAdd (e2 fAdd (e2 fMul (eVar 1) (eC (.int 61))) (eM1 fIndexS (e2 fAdd (eC (.str [97, 98, 99, 100, 101, 102, 103, 104, 105, 106, 107, 108, 109, 110, 111, 112, 113, 114, 115, 116, 117, 118, 119, 120, 121, 122, 48, 49, 50, 51, 52, 53, 54, 55, 56, 57, 32, 62, 63, 60, 59])) (eC (.str [124]))) (eVar 2))) (eC (.int 1))) (eC (.int 9973))) (gNm 1)))
  (sRet (eVar 1))))
def F_sum_of : Fn := runB 1 3 b_sum_of
def b_packed : EvS := (sSeq (sIf (tOrE (tOf (e2 fEq (eN fLen (aCons (eVar 0) aNil)) (eC (.int 0)))) (tOf (e2 fNe (eV (fLc (iS (eM1 fJoin (eC (.str [])) (eVar 0))) [1] (pNm 1) (tOf (e2 fNotInS (eVar 1) (eC (.str [97, 98, 99, 100, 101, 102, 103, 104, 105, 106, 107, 108, 109, 110, 111, 112, 113, 114, 115, 116, 117, 118, 119, 120, 121, 122, 48, 49, 50, 51, 52, 53, 54, 55, 56, 57, 32, 62, 63, 60, 59])))) (eVar 1))) (eV (fLst aNil))))) sNever sNext)
  (sSeq (sAsg (eM1 fJoin (eC (.str [124])) (eVar 0)) (gNm 2))
  (sRet (e2 fAdd (e2 fAdd (e2 fAdd (e2 fAdd (e2 fAdd (eN fStr (aCons (eN fLen (aCons (eVar 2) aNil)) aNil)) (eC (.str [46]))) (eN fStr (aCons (eN (callE F_sum_of) (aCons (eVar 2) aNil)) aNil))) (eC (.str [46]))) (eVar 2)) (eC (.str [33]))))))
def F_packed : Fn := runB 1 3 b_packed
def b_number_of : EvS := (sSeq (sIf (tOrE (tNotE (tOf (eChain fLe fLe (eC (.int 1)) (eN fLen (aCons (eVar 0) aNil)) (eC (.int 6))))) (tOf (e2 fNe (eV (fLc (iS (eVar 0)) [1] (pNm 1) (tOf (e2 fNotInS (eVar 1) (eC (.str [48, 49, 50, 51, 52, 53, 54, 55, 56, 57])))) (eVar 1))) (eV (fLst aNil))))) (sRet (eC .non)) sNext)
  (sRet (eIf (tOrE (tOf (e2 fNe (e2 fIx (eVar 0) (eC (.int 0))) (eC (.str [48])))) (tOf (e2 fEq (eVar 0) (eC (.str [48]))))) (eN fIntS (aCons (eVar 0) aNil)) (eC .non))))
def F_number_of : Fn := runB 1 2 b_number_of
def b_unpacked : EvS := (sSeq (sAsg (eV (eM1 fSplit (eVar 0) (eC (.str [46])))) (gNm 1))
  (sSeq (sIf (tOrE (tOf (e2 fNe (eN fLen (aCons (eVar 1) aNil)) (eC (.int 3)))) (tOf (e2 fNe (e3 fSl (e2 fIx (eVar 1) (eC (.int 2))) (oSome (e1 fNeg (eC (.int 1)))) oNone) (eC (.str [33]))))) (sRet (eC .non)) sNext)
  (sSeq (sAsg (e3 fSl (e2 fIx (eVar 1) (eC (.int 2))) oNone (oSome (e1 fNeg (eC (.int 1))))) (gNm 2))
  (sSeq (sIf (tOf (e2 fNe (eV (fLc (iS (eVar 2)) [3] (pNm 3) (tOf (e2 fNotInS (eVar 3) (e2 fAdd (eC (.str [97, 98, 99, 100, 101, 102, 103, 104, 105, 106, 107, 108, 109, 110, 111, 112, 113, 114, 115, 116, 117, 118, 119, 120, 121, 122, 48, 49, 50, 51, 52, 53, 54, 55, 56, 57, 32, 62, 63, 60, 59])) (eC (.str [124]))))) (eVar 3))) (eV (fLst aNil)))) (sRet (eC .non)) sNext)
  (sSeq (sIf (tOrE (tOf (e2 fNe (eN (callE F_number_of) (aCons (e2 fIx (eVar 1) (eC (.int 0))) aNil)) (eN fLen (aCons (eVar 2) aNil)))) (tOf (e2 fNe (eN (callE F_number_of) (aCons (e2 fIx (eVar 1) (eC (.int 1))) aNil)) (eN (callE F_sum_of) (aCons (eVar 2) aNil))))) (sRet (eC .non)) sNext)
  (sRetF (eM1 fSplit (eVar 2) (eC (.str [124])))))))))
def F_unpacked : Fn := runB 1 4 b_unpacked
def b__law_begun : EvS := (sSeq (sAsg (eC (.int 0)) (gNm 1))
  (sSeq (sFor (iL (eVar 0)) (gNm 2) (sAsg (e2 fMod (e2 fAdd (e2 fAdd (e2 fMul (eVar 1) (eC (.int 48271))) (e2 fMul (eVar 2) (eC (.int 69621)))) (eC (.int 11))) (eC (.int 2147483647))) (gNm 1)))
  (sRet (eOwn (fLst (aCons (eOwn (eN fListOf (aCons (eVar 0) aNil))) (aCons (e2 fMul (eVar 1) (eN fInt (aCons (e2 fGt (eN fLen (aCons (eVar 0) aNil)) (eC (.int 2))) aNil))) aNil)))))))
def F__law_begun : Fn := runB 1 3 b__law_begun
def b__law_take : EvS := (sSeq (sIf (tOf (e2 fEq (e2 fIx (eVar 0) (eC (.int 0))) (eV (fLst aNil)))) (sSeq (sAsg (e2 fMod (e2 fMul (e2 fIx (eVar 0) (eC (.int 1))) (eC (.int 48271))) (eC (.int 2147483647))) (gSb (eVar 0) (eC (.int 1))))
  (sRet (e2 fMod (e2 fDiv (e2 fIx (eVar 0) (eC (.int 1))) (eC (.int 7))) (eVar 1)))) sNext)
  (sSeq (sAsg (e2 fIx (e2 fIx (eVar 0) (eC (.int 0))) (eC (.int 0))) (gNm 2))
  (sSeq (sAsg (e2 fDiv (eVar 2) (eVar 1)) (gSb (e2 fIx (eVar 0) (eC (.int 0))) (eC (.int 0))))
  (sSeq (sIf (tOrE (tOf (e2 fEq (e2 fIx (e2 fIx (eVar 0) (eC (.int 0))) (eC (.int 0))) (eC (.int 0)))) (tOf (e2 fEq (e2 fIx (e2 fIx (eVar 0) (eC (.int 0))) (eC (.int 0))) (e1 fNeg (eC (.int 1)))))) (sDo (eBM fPopAt (e2 fIx (eVar 0) (eC (.int 0))) (aCons (eC (.int 0)) aNil))) sNext)
  (sRet (e2 fMod (eVar 2) (eVar 1)))))))
def F__law_take : Fn := runB 2 3 b__law_take
def b__law_alike (F : Fn) : EvS := (sSeq (sIf (tOf (eIsN (eVar 1))) (sRet (eIsN (eVar 0))) sNext)
  (sSeq (sIf (tOf (eN fIsT (aCons (eVar 1) (aCons (eC (.raw (.ty "bool"))) aNil)))) (sRet (eAndE (eN fIsT (aCons (eVar 0) (aCons (eC (.raw (.ty "bool"))) aNil))) (e2 fEq (eVar 0) (eVar 1)))) sNext)
  (sSeq (sIf (tOf (eN fIsT (aCons (eVar 1) (aCons (eC (.raw (.ty "int"))) aNil)))) (sRet (eAndE (eN fIsT (aCons (eVar 0) (aCons (eC (.raw (.ty "int"))) aNil))) (eAndE (eNotE (eN fIsT (aCons (eVar 0) (aCons (eC (.raw (.ty "bool"))) aNil)))) (e2 fEq (eVar 0) (eVar 1))))) sNext)
  (sSeq (sIf (tOf (eN fIsT (aCons (eVar 1) (aCons (eC (.raw (.ty "str"))) aNil)))) (sRet (eAndE (eN fIsT (aCons (eVar 0) (aCons (eC (.raw (.ty "str"))) aNil))) (e2 fEq (eVar 0) (eVar 1)))) sNext)
  (sSeq (sIf (tOrE (tOf (e2 fNe (eN fIsT (aCons (eVar 1) (aCons (eC (.raw (.ty "tuple"))) aNil))) (eN fIsT (aCons (eVar 0) (aCons (eC (.raw (.ty "tuple"))) aNil))))) (tOf (e2 fNe (eN fIsT (aCons (eVar 1) (aCons (eC (.raw (.ty "list"))) aNil))) (eN fIsT (aCons (eVar 0) (aCons (eC (.raw (.ty "list"))) aNil)))))) (sRet (eC (.bl false))) sNext)
  (sSeq (sIf (tOf (e2 fNe (eN fLen (aCons (eVar 0) aNil)) (eN fLen (aCons (eVar 1) aNil)))) (sRet (eC (.bl false))) sNext)
  (sSeq (sFor (iR1 (aCons (eN fLen (aCons (eVar 1) aNil)) aNil)) (gNm 2) (sIf (tNotE (tOf (eN (callE F) (aCons (e2 fIx (eVar 0) (eVar 2)) (aCons (e2 fIx (eVar 1) (eVar 2)) aNil))))) (sRet (eC (.bl false))) sNext))
  (sRet (eC (.bl true))))))))))
def F__law_alike : Nat → Fn
  | 0 => fun _ _ => none
  | n + 1 => runB 2 3 (b__law_alike (F__law_alike n))
def b__law_packed : EvS := (sSeq (sAsg (eC (.str [97, 98, 99, 100, 101, 102, 103, 104, 105, 106, 107, 108, 109, 110, 111, 112, 113, 114, 115, 116, 117, 118, 119, 120, 121, 122, 48, 49, 50, 51, 52, 53, 54, 55, 56, 57, 32, 62, 63, 60, 59, 124])) (gNm 1))
  (sSeq (sAsg (eM1 fJoin (eC (.str [124])) (eVar 0)) (gNm 2))
  (sSeq (sAsg (eC (.int 0)) (gNm 3))
  (sSeq (sFor (iS (eVar 2)) (gNm 4) (sAsg (e2 fMod (e2 fAdd (e2 fAdd (e2 fMul (eVar 3) (eC (.int 61))) (eM1 fIndexS (eVar 1) (eVar 4))) (eC (.int 1))) (eC (.int 9973))) (gNm 3)))
  (sRet (e2 fAdd (e2 fAdd (e2 fAdd (e2 fAdd (e2 fAdd (eN fStr (aCons (eN fLen (aCons (eVar 2) aNil)) aNil)) (eC (.str [46]))) (eN fStr (aCons (eVar 3) aNil))) (eC (.str [46]))) (eVar 2)) (eC (.str [33]))))))))
def F__law_packed : Fn := runB 1 5 b__law_packed
def b__law_unpacked : EvS := (sSeq (sAsg (eC (.str [97, 98, 99, 100, 101, 102, 103, 104, 105, 106, 107, 108, 109, 110, 111, 112, 113, 114, 115, 116, 117, 118, 119, 120, 121, 122, 48, 49, 50, 51, 52, 53, 54, 55, 56, 57, 32, 62, 63, 60, 59, 124])) (gNm 1))
  (sSeq (sIf (tOrE (tOf (e2 fNe (eM1 fCount (eVar 0) (eC (.str [46]))) (eC (.int 2)))) (tOf (e2 fNe (e3 fSl (eVar 0) (oSome (e1 fNeg (eC (.int 1)))) oNone) (eC (.str [33]))))) (sRet (eC .non)) sNext)
  (sSeq (sAsg (e2 fIx (eV (eM1 fSplit (e3 fSl (eVar 0) oNone (oSome (e1 fNeg (eC (.int 1))))) (eC (.str [46])))) (eC (.int 2))) (gNm 2))
  (sSeq (sIf (tOf (e2 fNe (eV (fLc (iS (eVar 2)) [3] (pNm 3) (tOf (e2 fNotInS (eVar 3) (eVar 1))) (eVar 3))) (eV (fLst aNil)))) (sRet (eC .non)) sNext)
  (sSeq (sAsg (eV (eM1 fSplit (eVar 2) (eC (.str [124])))) (gNm 4))
  (sRet (eIf (tOf (e2 fEq (eVar 0) (eN (callE F__law_packed) (aCons (eVar 4) aNil)))) (eVar 4) (eC .non))))))))
def F__law_unpacked : Fn := runB 1 5 b__law_unpacked
def b__law_otherwise : EvS := (sSeq (sAsg (eC (.str [97, 98, 99, 100, 101, 102, 103, 104, 105, 106, 107, 108, 109, 110, 111, 112, 113, 114, 115, 116, 117, 118, 119, 120, 121, 122, 48, 49, 50, 51, 52, 53, 54, 55, 56, 57, 32, 62, 63, 60, 59, 124, 46, 33, 45, 35, 65, 90, 81, 61, 64, 10, 126, 95])) (gNm 2))
  (sSeq (sPar 3 4 (eN (callE F__law_take) (aCons (eVar 0) (aCons (e2 fAdd (eN fLen (aCons (eVar 1) aNil)) (eC (.int 1))) aNil))) (eN (callE F__law_take) (aCons (eVar 0) (aCons (eC (.int 6)) aNil))))
  (sSeq (sAsg (e2 fIx (eVar 2) (eN (callE F__law_take) (aCons (eVar 0) (aCons (eC (.int 54)) aNil)))) (gNm 5))
  (sSeq (sIf (tOf (e2 fEq (eVar 4) (eC (.int 1)))) (sAsg (eC (.str [])) (gNm 5)) sNext)
  (sSeq (sIf (tOf (e2 fLt (eVar 4) (eC (.int 3)))) (sRet (e2 fAdd (e2 fAdd (e3 fSl (eVar 1) oNone (oSome (eVar 3))) (eVar 5)) (e3 fSl (eVar 1) (oSome (e2 fAdd (eVar 3) (eN fInt (aCons (e2 fGt (eVar 4) (eC (.int 0))) aNil)))) oNone))) sNext)
  (sSeq (sAsg (e2 fAdd (eVar 3) (eN (callE F__law_take) (aCons (eVar 0) (aCons (eC (.int 9)) aNil)))) (gNm 6))
  (sSeq (sIf (tOf (e2 fEq (eVar 4) (eC (.int 3)))) (sRet (e2 fAdd (e3 fSl (eVar 1) oNone (oSome (eVar 6))) (e3 fSl (eVar 1) (oSome (eVar 3)) oNone))) sNext)
  (sSeq (sIf (tOf (e2 fEq (eVar 4) (eC (.int 4)))) (sRet (e2 fAdd (e2 fMul (eC (.str [48])) (e2 fAdd (eC (.int 1)) (eN (callE F__law_take) (aCons (eVar 0) (aCons (eC (.int 2)) aNil))))) (eVar 1))) sNext)
  (sRet (e2 fAdd (e2 fAdd (e3 fSl (eVar 1) oNone (oSome (eVar 3))) (eRev (e3 fSl (eVar 1) (oSome (eVar 3)) (oSome (e2 fAdd (eVar 3) (eC (.int 2))))))) (e3 fSl (eVar 1) (oSome (e2 fAdd (eVar 3) (eC (.int 2)))) oNone)))))))))))
def F__law_otherwise : Fn := runB 2 7 b__law_otherwise
def b_law : EvS := (sSeq (sAsg (eN (callE F__law_begun) (aCons (eVar 0) aNil)) (gNm 1))
  (sSeq (sAsg (eC (.str [97, 98, 99, 100, 101, 102, 103, 104, 105, 106, 107, 108, 109, 110, 111, 112, 113, 114, 115, 116, 117, 118, 119, 120, 121, 122, 48, 49, 50, 51, 52, 53, 54, 55, 56, 57, 32, 62, 63, 60, 59])) (gNm 2))
  (sSeq (sFor (iR1 (aCons (eC (.int 3)) aNil)) (gNm 3) (sSeq (sAcc 4 (fLst aNil))
  (sSeq (sFor (iR1 (aCons (e2 fAdd (eC (.int 1)) (eN (callE F__law_take) (aCons (eVar 1) (aCons (eC (.int 6)) aNil)))) aNil)) (gNm 5) (sApp 4 (eM1 fJoin (eC (.str [])) (eV (fLc (iR1 (aCons (eN (callE F__law_take) (aCons (eVar 1) (aCons (eC (.int 9)) aNil))) aNil)) [6] (pNm 6) tYesE (e2 fIx (eVar 2) (eN (callE F__law_take) (aCons (eVar 1) (aCons (eC (.int 41)) aNil)))))))))
  (sSeq (sFrz 4 (sAsg (eN (callE F_packed) (aCons (eVar 4) aNil)) (gNm 7)))
  (sSeq (sFor (iR1 (aCons (eN fLen (aCons (eVar 7) aNil)) aNil)) (gNm 8) (sIf (tOf (eNotN (eN (callE F_unpacked) (aCons (e3 fSl (eVar 7) oNone (oSome (eVar 8))) aNil)))) (sRet (eC (.bl false))) sNext))
  (sFor (iR1 (aCons (eC (.int 6)) aNil)) (gNm 9) (sSeq (sAsg (eVar 7) (gNm 10))
  (sSeq (sFor (iR1 (aCons (e2 fAdd (eC (.int 1)) (eN (callE F__law_take) (aCons (eVar 1) (aCons (eC (.int 2)) aNil)))) aNil)) (gNm 11) (sAsg (eN (callE F__law_otherwise) (aCons (eVar 1) (aCons (eVar 10) aNil))) (gNm 10)))
  (sIf (tNotE (tOf (eN (callE (F__law_alike 8)) (aCons (eN (callE F_unpacked) (aCons (eVar 10) aNil)) (aCons (eN (callE F__law_unpacked) (aCons (eVar 10) aNil)) aNil))))) (sRet (eC (.bl false))) sNext)))))))))
  (sSeq (sAsg (eV (fLst (aCons (eC (.str [])) (aCons (eC (.str [33])) (aCons (eC (.str [46, 46, 33])) (aCons (eC (.str [48, 46, 48, 46, 33])) (aCons (eC (.str [49, 46, 49, 46, 97, 33])) (aCons (eC (.str [49, 46, 49, 46, 97])) (aCons (eC (.str [49, 46, 50, 46, 97, 33])) (aCons (eC (.str [48, 49, 46, 49, 46, 97, 33])) (aCons (eC (.str [49, 46, 48, 49, 46, 97, 33])) (aCons (eC (.str [32, 49, 46, 49, 46, 97, 33])) (aCons (eC (.str [49, 46, 49, 46, 97, 33, 33])) (aCons (eC (.str [45, 49, 46, 49, 46, 97, 33])) aNil)))))))))))))) (gNm 12))
  (sSeq (sFor (iL (eVar 12)) (gNm 10) (sIf (tNotE (tOf (eN (callE (F__law_alike 8)) (aCons (eN (callE F_unpacked) (aCons (eVar 10) aNil)) (aCons (eN (callE F__law_unpacked) (aCons (eVar 10) aNil)) aNil))))) (sRet (eC (.bl false))) sNext))
  (sRet (eC (.bl true))))))))
def F_law : Fn := runB 1 13 b_law
end K06

set_option maxRecDepth 100000
set_option maxHeartbeats 4000000
namespace K06
open AH PySem L2 TL
theorem e_take : F__law_take = F_take := rfl
theorem e_begun : F__law_begun = F_begun := rfl
theorem e_alike : ∀ n, F__law_alike n = F_alike n
  | 0 => rfl
  | n + 1 => by
    show runB 2 3 (b__law_alike (F__law_alike n)) = runB 2 3 (bAlike (F_alike n))
    rw [e_alike n]
    rfl
theorem e_packed : K06.F_packed = AH.F_packed := rfl
theorem e_lpacked : F__law_packed = F_lpacked := rfl
theorem e_unpacked : K06.F_unpacked = AH.F_unpacked := rfl
def oD : Option (List (List Nat)) → D
  | some fs => .lst (fs.map .str)
  | none => .non
theorem bd {p : Prop} [Decidable p] (h : (!decide p) = false) : p := by
  by_cases q : p
  · exact q
  · rw [decide_eq_false q] at h
    cases h
theorem bt {p : Prop} [Decidable p] (h : (!decide p) = true) : ¬ p := fun q => by
  rw [decide_eq_true q] at h
  cases h
theorem lunp_ok {S : Sto} {t : List Nat} (hl : t.length ≤ 10000) (ht : okS t) : W (F__law_unpacked [.str t] S) fun o S' => o = .v (oD (lunpV t)) ∧ S' = S := by
  refine w_run rfl ?_
  show WS (b__law_unpacked [.val (.str t), .no, .no, .no, .no] S) _
  unfold b__law_unpacked
  rw [e_lpacked]
  repeat (first | with_reducible (first | refine ws_seq ?_ | refine nxt_nx ?_ | refine lp_nx ?_ | refine lp_ct ?_ | refine lp_bk ?_ | refine lp_rt ?_ | refine lp_rf ?_ | refine nxt_rt ?_ | refine nxt_rf ?_ | refine nxt_bk ?_ | refine nxt_ct ?_ | refine end_nx ?_ | refine end_rt ?_ | refine end_rf ?_ | refine ws_next ?_ | refine ws_brk ?_ | refine ws_cnt ?_ | refine ws_do ?_ | refine ws_ret ?_ | refine ws_retF ?_ | refine ws_retN ?_ | refine ws_set ?_ | refine ws_acc ?_ | refine ws_par ?_ | refine ws_asg ?_ | refine ws_for ?_ | refine ws_if ?_ | refine we_2 ?_ | refine we_1 ?_ | refine we_n ?_ | refine we_3 ?_ | refine we_c ?_ | refine wo_none ?_ | refine wo_some ?_ | refine wl_cons ?_ | refine wl_nil ?_ | refine we_V ?_ | refine we_own ?_ | refine we_tup ?_ | refine wl_lst ?_ | refine wt_of ?_ | refine wt_or ?_ | refine wt_and ?_ | refine wt_not ?_ | refine we_and ?_ | refine we_or ?_ | refine we_not ?_ | refine we_if ?_ | refine we_isN ?_ | refine we_notN ?_ | refine we_chain ?_ | refine wt_yes ?_ | refine wi_L ?_ | refine wi_T ?_ | refine wi_S ?_ | refine wi_R1 ?_ | refine wi_R2 ?_ | refine wi_R3 ?_ | refine wi_E ?_ | refine we_call ?_ | refine we_callF ?_ | refine we_bm ?_ | refine wg_sb ?_ | refine we_m1 ?_ | refine we_rev ?_ | refine wo_add ?_ | refine wo_sub ?_ | refine wo_neg ?_ | refine wo_cmp ?_ | refine wo_eqI ?_ | refine wo_neI ?_ | refine wo_eqS ?_ | refine wo_neS ?_ | refine wo_eqB ?_ | refine wo_neB ?_ | refine wo_lenL ?_ | refine wo_lenT ?_ | refine wo_lenC ?_ | refine wo_max ?_ | refine wo_min ?_ | refine wo_slL ?_ | refine wo_listC ?_ | refine wo_listL ?_ | refine wo_listT ?_ | refine wo_tupT ?_ | refine wo_tupL ?_ | refine wo_intI ?_ | refine wo_intB ?_ | refine wo_strS ?_ | refine wo_inS ?_ | refine wo_ninS ?_) | ((with_reducible apply we_var); rfl) | ((with_reducible apply ws_frz); rfl) | ((with_reducible apply ws_app); rfl) | ((with_reducible apply ws_extend); rfl) | ((with_reducible apply ws_retA); rfl) | ((with_reducible apply ws_frz0); rfl) | ((with_reducible apply wo_isT); rfl; rfl) | (refine ⟨Nat.le_of_ble_eq_true rfl, ?_⟩) | (with_reducible refine ⟨_, rfl, ?_⟩) | (with_reducible refine wg_nm (Nat.le_of_ble_eq_true rfl) ?_) | (refine ⟨⟨Nat.le_of_ble_eq_true rfl, Nat.le_of_ble_eq_true rfl⟩, ?_⟩) | (with_reducible refine Or.inl ⟨_, rfl, ?_⟩) | (with_reducible refine Or.inr ⟨_, rfl, ?_⟩))
  refine wo_count ?_
  repeat (first | with_reducible (first | refine ws_seq ?_ | refine nxt_nx ?_ | refine lp_nx ?_ | refine lp_ct ?_ | refine lp_bk ?_ | refine lp_rt ?_ | refine lp_rf ?_ | refine nxt_rt ?_ | refine nxt_rf ?_ | refine nxt_bk ?_ | refine nxt_ct ?_ | refine end_nx ?_ | refine end_rt ?_ | refine end_rf ?_ | refine ws_next ?_ | refine ws_brk ?_ | refine ws_cnt ?_ | refine ws_do ?_ | refine ws_ret ?_ | refine ws_retF ?_ | refine ws_retN ?_ | refine ws_set ?_ | refine ws_acc ?_ | refine ws_par ?_ | refine ws_asg ?_ | refine ws_for ?_ | refine ws_if ?_ | refine we_2 ?_ | refine we_1 ?_ | refine we_n ?_ | refine we_3 ?_ | refine we_c ?_ | refine wo_none ?_ | refine wo_some ?_ | refine wl_cons ?_ | refine wl_nil ?_ | refine we_V ?_ | refine we_own ?_ | refine we_tup ?_ | refine wl_lst ?_ | refine wt_of ?_ | refine wt_or ?_ | refine wt_and ?_ | refine wt_not ?_ | refine we_and ?_ | refine we_or ?_ | refine we_not ?_ | refine we_if ?_ | refine we_isN ?_ | refine we_notN ?_ | refine we_chain ?_ | refine wt_yes ?_ | refine wi_L ?_ | refine wi_T ?_ | refine wi_S ?_ | refine wi_R1 ?_ | refine wi_R2 ?_ | refine wi_R3 ?_ | refine wi_E ?_ | refine we_call ?_ | refine we_callF ?_ | refine we_bm ?_ | refine wg_sb ?_ | refine we_m1 ?_ | refine we_rev ?_ | refine wo_add ?_ | refine wo_sub ?_ | refine wo_neg ?_ | refine wo_cmp ?_ | refine wo_eqI ?_ | refine wo_neI ?_ | refine wo_eqS ?_ | refine wo_neS ?_ | refine wo_eqB ?_ | refine wo_neB ?_ | refine wo_lenL ?_ | refine wo_lenT ?_ | refine wo_lenC ?_ | refine wo_max ?_ | refine wo_min ?_ | refine wo_slL ?_ | refine wo_listC ?_ | refine wo_listL ?_ | refine wo_listT ?_ | refine wo_tupT ?_ | refine wo_tupL ?_ | refine wo_intI ?_ | refine wo_intB ?_ | refine wo_strS ?_ | refine wo_inS ?_ | refine wo_ninS ?_) | ((with_reducible apply we_var); rfl) | ((with_reducible apply ws_frz); rfl) | ((with_reducible apply ws_app); rfl) | ((with_reducible apply ws_extend); rfl) | ((with_reducible apply ws_retA); rfl) | ((with_reducible apply ws_frz0); rfl) | ((with_reducible apply wo_isT); rfl; rfl) | (refine ⟨Nat.le_of_ble_eq_true rfl, ?_⟩) | (with_reducible refine ⟨_, rfl, ?_⟩) | (with_reducible refine wg_nm (Nat.le_of_ble_eq_true rfl) ?_) | (refine ⟨⟨Nat.le_of_ble_eq_true rfl, Nat.le_of_ble_eq_true rfl⟩, ?_⟩) | (with_reducible refine Or.inl ⟨_, rfl, ?_⟩) | (with_reducible refine Or.inr ⟨_, rfl, ?_⟩))
  refine ⟨fun z => ?_, fun z => ?_⟩
  · refine ⟨fun _ => ?_, fun q => nomatch q⟩
    have z := bt z
    repeat (first | with_reducible (first | refine ws_seq ?_ | refine nxt_nx ?_ | refine lp_nx ?_ | refine lp_ct ?_ | refine lp_bk ?_ | refine lp_rt ?_ | refine lp_rf ?_ | refine nxt_rt ?_ | refine nxt_rf ?_ | refine nxt_bk ?_ | refine nxt_ct ?_ | refine end_nx ?_ | refine end_rt ?_ | refine end_rf ?_ | refine ws_next ?_ | refine ws_brk ?_ | refine ws_cnt ?_ | refine ws_do ?_ | refine ws_ret ?_ | refine ws_retF ?_ | refine ws_retN ?_ | refine ws_set ?_ | refine ws_acc ?_ | refine ws_par ?_ | refine ws_asg ?_ | refine ws_for ?_ | refine ws_if ?_ | refine we_2 ?_ | refine we_1 ?_ | refine we_n ?_ | refine we_3 ?_ | refine we_c ?_ | refine wo_none ?_ | refine wo_some ?_ | refine wl_cons ?_ | refine wl_nil ?_ | refine we_V ?_ | refine we_own ?_ | refine we_tup ?_ | refine wl_lst ?_ | refine wt_of ?_ | refine wt_or ?_ | refine wt_and ?_ | refine wt_not ?_ | refine we_and ?_ | refine we_or ?_ | refine we_not ?_ | refine we_if ?_ | refine we_isN ?_ | refine we_notN ?_ | refine we_chain ?_ | refine wt_yes ?_ | refine wi_L ?_ | refine wi_T ?_ | refine wi_S ?_ | refine wi_R1 ?_ | refine wi_R2 ?_ | refine wi_R3 ?_ | refine wi_E ?_ | refine we_call ?_ | refine we_callF ?_ | refine we_bm ?_ | refine wg_sb ?_ | refine we_m1 ?_ | refine we_rev ?_ | refine wo_add ?_ | refine wo_sub ?_ | refine wo_neg ?_ | refine wo_cmp ?_ | refine wo_eqI ?_ | refine wo_neI ?_ | refine wo_eqS ?_ | refine wo_neS ?_ | refine wo_eqB ?_ | refine wo_neB ?_ | refine wo_lenL ?_ | refine wo_lenT ?_ | refine wo_lenC ?_ | refine wo_max ?_ | refine wo_min ?_ | refine wo_slL ?_ | refine wo_listC ?_ | refine wo_listL ?_ | refine wo_listT ?_ | refine wo_tupT ?_ | refine wo_tupL ?_ | refine wo_intI ?_ | refine wo_intB ?_ | refine wo_strS ?_ | refine wo_inS ?_ | refine wo_ninS ?_) | ((with_reducible apply we_var); rfl) | ((with_reducible apply ws_frz); rfl) | ((with_reducible apply ws_app); rfl) | ((with_reducible apply ws_extend); rfl) | ((with_reducible apply ws_retA); rfl) | ((with_reducible apply ws_frz0); rfl) | ((with_reducible apply wo_isT); rfl; rfl) | (refine ⟨Nat.le_of_ble_eq_true rfl, ?_⟩) | (with_reducible refine ⟨_, rfl, ?_⟩) | (with_reducible refine wg_nm (Nat.le_of_ble_eq_true rfl) ?_) | (refine ⟨⟨Nat.le_of_ble_eq_true rfl, Nat.le_of_ble_eq_true rfl⟩, ?_⟩) | (with_reducible refine Or.inl ⟨_, rfl, ?_⟩) | (with_reducible refine Or.inr ⟨_, rfl, ?_⟩))
    have e : lunpV t = none := by
      unfold lunpV
      rw [if_neg fun q => z (by omega)]
    rw [e]
    exact ⟨rfl, rfl⟩
  have z1 := bd z
  repeat (first | with_reducible (first | refine ws_seq ?_ | refine nxt_nx ?_ | refine lp_nx ?_ | refine lp_ct ?_ | refine lp_bk ?_ | refine lp_rt ?_ | refine lp_rf ?_ | refine nxt_rt ?_ | refine nxt_rf ?_ | refine nxt_bk ?_ | refine nxt_ct ?_ | refine end_nx ?_ | refine end_rt ?_ | refine end_rf ?_ | refine ws_next ?_ | refine ws_brk ?_ | refine ws_cnt ?_ | refine ws_do ?_ | refine ws_ret ?_ | refine ws_retF ?_ | refine ws_retN ?_ | refine ws_set ?_ | refine ws_acc ?_ | refine ws_par ?_ | refine ws_asg ?_ | refine ws_for ?_ | refine ws_if ?_ | refine we_2 ?_ | refine we_1 ?_ | refine we_n ?_ | refine we_3 ?_ | refine we_c ?_ | refine wo_none ?_ | refine wo_some ?_ | refine wl_cons ?_ | refine wl_nil ?_ | refine we_V ?_ | refine we_own ?_ | refine we_tup ?_ | refine wl_lst ?_ | refine wt_of ?_ | refine wt_or ?_ | refine wt_and ?_ | refine wt_not ?_ | refine we_and ?_ | refine we_or ?_ | refine we_not ?_ | refine we_if ?_ | refine we_isN ?_ | refine we_notN ?_ | refine we_chain ?_ | refine wt_yes ?_ | refine wi_L ?_ | refine wi_T ?_ | refine wi_S ?_ | refine wi_R1 ?_ | refine wi_R2 ?_ | refine wi_R3 ?_ | refine wi_E ?_ | refine we_call ?_ | refine we_callF ?_ | refine we_bm ?_ | refine wg_sb ?_ | refine we_m1 ?_ | refine we_rev ?_ | refine wo_add ?_ | refine wo_sub ?_ | refine wo_neg ?_ | refine wo_cmp ?_ | refine wo_eqI ?_ | refine wo_neI ?_ | refine wo_eqS ?_ | refine wo_neS ?_ | refine wo_eqB ?_ | refine wo_neB ?_ | refine wo_lenL ?_ | refine wo_lenT ?_ | refine wo_lenC ?_ | refine wo_max ?_ | refine wo_min ?_ | refine wo_slL ?_ | refine wo_listC ?_ | refine wo_listL ?_ | refine wo_listT ?_ | refine wo_tupT ?_ | refine wo_tupL ?_ | refine wo_intI ?_ | refine wo_intB ?_ | refine wo_strS ?_ | refine wo_inS ?_ | refine wo_ninS ?_) | ((with_reducible apply we_var); rfl) | ((with_reducible apply ws_frz); rfl) | ((with_reducible apply ws_app); rfl) | ((with_reducible apply ws_extend); rfl) | ((with_reducible apply ws_retA); rfl) | ((with_reducible apply ws_frz0); rfl) | ((with_reducible apply wo_isT); rfl; rfl) | (refine ⟨Nat.le_of_ble_eq_true rfl, ?_⟩) | (with_reducible refine ⟨_, rfl, ?_⟩) | (with_reducible refine wg_nm (Nat.le_of_ble_eq_true rfl) ?_) | (refine ⟨⟨Nat.le_of_ble_eq_true rfl, Nat.le_of_ble_eq_true rfl⟩, ?_⟩) | (with_reducible refine Or.inl ⟨_, rfl, ?_⟩) | (with_reducible refine Or.inr ⟨_, rfl, ?_⟩))
  refine wo_slS (by omega) ?_
  rw [cut_last1]
  repeat (first | with_reducible (first | refine ws_seq ?_ | refine nxt_nx ?_ | refine lp_nx ?_ | refine lp_ct ?_ | refine lp_bk ?_ | refine lp_rt ?_ | refine lp_rf ?_ | refine nxt_rt ?_ | refine nxt_rf ?_ | refine nxt_bk ?_ | refine nxt_ct ?_ | refine end_nx ?_ | refine end_rt ?_ | refine end_rf ?_ | refine ws_next ?_ | refine ws_brk ?_ | refine ws_cnt ?_ | refine ws_do ?_ | refine ws_ret ?_ | refine ws_retF ?_ | refine ws_retN ?_ | refine ws_set ?_ | refine ws_acc ?_ | refine ws_par ?_ | refine ws_asg ?_ | refine ws_for ?_ | refine ws_if ?_ | refine we_2 ?_ | refine we_1 ?_ | refine we_n ?_ | refine we_3 ?_ | refine we_c ?_ | refine wo_none ?_ | refine wo_some ?_ | refine wl_cons ?_ | refine wl_nil ?_ | refine we_V ?_ | refine we_own ?_ | refine we_tup ?_ | refine wl_lst ?_ | refine wt_of ?_ | refine wt_or ?_ | refine wt_and ?_ | refine wt_not ?_ | refine we_and ?_ | refine we_or ?_ | refine we_not ?_ | refine we_if ?_ | refine we_isN ?_ | refine we_notN ?_ | refine we_chain ?_ | refine wt_yes ?_ | refine wi_L ?_ | refine wi_T ?_ | refine wi_S ?_ | refine wi_R1 ?_ | refine wi_R2 ?_ | refine wi_R3 ?_ | refine wi_E ?_ | refine we_call ?_ | refine we_callF ?_ | refine we_bm ?_ | refine wg_sb ?_ | refine we_m1 ?_ | refine we_rev ?_ | refine wo_add ?_ | refine wo_sub ?_ | refine wo_neg ?_ | refine wo_cmp ?_ | refine wo_eqI ?_ | refine wo_neI ?_ | refine wo_eqS ?_ | refine wo_neS ?_ | refine wo_eqB ?_ | refine wo_neB ?_ | refine wo_lenL ?_ | refine wo_lenT ?_ | refine wo_lenC ?_ | refine wo_max ?_ | refine wo_min ?_ | refine wo_slL ?_ | refine wo_listC ?_ | refine wo_listL ?_ | refine wo_listT ?_ | refine wo_tupT ?_ | refine wo_tupL ?_ | refine wo_intI ?_ | refine wo_intB ?_ | refine wo_strS ?_ | refine wo_inS ?_ | refine wo_ninS ?_) | ((with_reducible apply we_var); rfl) | ((with_reducible apply ws_frz); rfl) | ((with_reducible apply ws_app); rfl) | ((with_reducible apply ws_extend); rfl) | ((with_reducible apply ws_retA); rfl) | ((with_reducible apply ws_frz0); rfl) | ((with_reducible apply wo_isT); rfl; rfl) | (refine ⟨Nat.le_of_ble_eq_true rfl, ?_⟩) | (with_reducible refine ⟨_, rfl, ?_⟩) | (with_reducible refine wg_nm (Nat.le_of_ble_eq_true rfl) ?_) | (refine ⟨⟨Nat.le_of_ble_eq_true rfl, Nat.le_of_ble_eq_true rfl⟩, ?_⟩) | (with_reducible refine Or.inl ⟨_, rfl, ?_⟩) | (with_reducible refine Or.inr ⟨_, rfl, ?_⟩))
  refine ⟨fun z => ?_, fun z => ?_⟩
  · have z := bt z
    repeat (first | with_reducible (first | refine ws_seq ?_ | refine nxt_nx ?_ | refine lp_nx ?_ | refine lp_ct ?_ | refine lp_bk ?_ | refine lp_rt ?_ | refine lp_rf ?_ | refine nxt_rt ?_ | refine nxt_rf ?_ | refine nxt_bk ?_ | refine nxt_ct ?_ | refine end_nx ?_ | refine end_rt ?_ | refine end_rf ?_ | refine ws_next ?_ | refine ws_brk ?_ | refine ws_cnt ?_ | refine ws_do ?_ | refine ws_ret ?_ | refine ws_retF ?_ | refine ws_retN ?_ | refine ws_set ?_ | refine ws_acc ?_ | refine ws_par ?_ | refine ws_asg ?_ | refine ws_for ?_ | refine ws_if ?_ | refine we_2 ?_ | refine we_1 ?_ | refine we_n ?_ | refine we_3 ?_ | refine we_c ?_ | refine wo_none ?_ | refine wo_some ?_ | refine wl_cons ?_ | refine wl_nil ?_ | refine we_V ?_ | refine we_own ?_ | refine we_tup ?_ | refine wl_lst ?_ | refine wt_of ?_ | refine wt_or ?_ | refine wt_and ?_ | refine wt_not ?_ | refine we_and ?_ | refine we_or ?_ | refine we_not ?_ | refine we_if ?_ | refine we_isN ?_ | refine we_notN ?_ | refine we_chain ?_ | refine wt_yes ?_ | refine wi_L ?_ | refine wi_T ?_ | refine wi_S ?_ | refine wi_R1 ?_ | refine wi_R2 ?_ | refine wi_R3 ?_ | refine wi_E ?_ | refine we_call ?_ | refine we_callF ?_ | refine we_bm ?_ | refine wg_sb ?_ | refine we_m1 ?_ | refine we_rev ?_ | refine wo_add ?_ | refine wo_sub ?_ | refine wo_neg ?_ | refine wo_cmp ?_ | refine wo_eqI ?_ | refine wo_neI ?_ | refine wo_eqS ?_ | refine wo_neS ?_ | refine wo_eqB ?_ | refine wo_neB ?_ | refine wo_lenL ?_ | refine wo_lenT ?_ | refine wo_lenC ?_ | refine wo_max ?_ | refine wo_min ?_ | refine wo_slL ?_ | refine wo_listC ?_ | refine wo_listL ?_ | refine wo_listT ?_ | refine wo_tupT ?_ | refine wo_tupL ?_ | refine wo_intI ?_ | refine wo_intB ?_ | refine wo_strS ?_ | refine wo_inS ?_ | refine wo_ninS ?_) | ((with_reducible apply we_var); rfl) | ((with_reducible apply ws_frz); rfl) | ((with_reducible apply ws_app); rfl) | ((with_reducible apply ws_extend); rfl) | ((with_reducible apply ws_retA); rfl) | ((with_reducible apply ws_frz0); rfl) | ((with_reducible apply wo_isT); rfl; rfl) | (refine ⟨Nat.le_of_ble_eq_true rfl, ?_⟩) | (with_reducible refine ⟨_, rfl, ?_⟩) | (with_reducible refine wg_nm (Nat.le_of_ble_eq_true rfl) ?_) | (refine ⟨⟨Nat.le_of_ble_eq_true rfl, Nat.le_of_ble_eq_true rfl⟩, ?_⟩) | (with_reducible refine Or.inl ⟨_, rfl, ?_⟩) | (with_reducible refine Or.inr ⟨_, rfl, ?_⟩))
    have e : lunpV t = none := by
      unfold lunpV
      rw [if_neg fun q => z q.2]
    rw [e]
    exact ⟨rfl, rfl⟩
  have z2 := bd z
  repeat (first | with_reducible (first | refine ws_seq ?_ | refine nxt_nx ?_ | refine lp_nx ?_ | refine lp_ct ?_ | refine lp_bk ?_ | refine lp_rt ?_ | refine lp_rf ?_ | refine nxt_rt ?_ | refine nxt_rf ?_ | refine nxt_bk ?_ | refine nxt_ct ?_ | refine end_nx ?_ | refine end_rt ?_ | refine end_rf ?_ | refine ws_next ?_ | refine ws_brk ?_ | refine ws_cnt ?_ | refine ws_do ?_ | refine ws_ret ?_ | refine ws_retF ?_ | refine ws_retN ?_ | refine ws_set ?_ | refine ws_acc ?_ | refine ws_par ?_ | refine ws_asg ?_ | refine ws_for ?_ | refine ws_if ?_ | refine we_2 ?_ | refine we_1 ?_ | refine we_n ?_ | refine we_3 ?_ | refine we_c ?_ | refine wo_none ?_ | refine wo_some ?_ | refine wl_cons ?_ | refine wl_nil ?_ | refine we_V ?_ | refine we_own ?_ | refine we_tup ?_ | refine wl_lst ?_ | refine wt_of ?_ | refine wt_or ?_ | refine wt_and ?_ | refine wt_not ?_ | refine we_and ?_ | refine we_or ?_ | refine we_not ?_ | refine we_if ?_ | refine we_isN ?_ | refine we_notN ?_ | refine we_chain ?_ | refine wt_yes ?_ | refine wi_L ?_ | refine wi_T ?_ | refine wi_S ?_ | refine wi_R1 ?_ | refine wi_R2 ?_ | refine wi_R3 ?_ | refine wi_E ?_ | refine we_call ?_ | refine we_callF ?_ | refine we_bm ?_ | refine wg_sb ?_ | refine we_m1 ?_ | refine we_rev ?_ | refine wo_add ?_ | refine wo_sub ?_ | refine wo_neg ?_ | refine wo_cmp ?_ | refine wo_eqI ?_ | refine wo_neI ?_ | refine wo_eqS ?_ | refine wo_neS ?_ | refine wo_eqB ?_ | refine wo_neB ?_ | refine wo_lenL ?_ | refine wo_lenT ?_ | refine wo_lenC ?_ | refine wo_max ?_ | refine wo_min ?_ | refine wo_slL ?_ | refine wo_listC ?_ | refine wo_listL ?_ | refine wo_listT ?_ | refine wo_tupT ?_ | refine wo_tupL ?_ | refine wo_intI ?_ | refine wo_intB ?_ | refine wo_strS ?_ | refine wo_inS ?_ | refine wo_ninS ?_) | ((with_reducible apply we_var); rfl) | ((with_reducible apply ws_frz); rfl) | ((with_reducible apply ws_app); rfl) | ((with_reducible apply ws_extend); rfl) | ((with_reducible apply ws_retA); rfl) | ((with_reducible apply ws_frz0); rfl) | ((with_reducible apply wo_isT); rfl; rfl) | (refine ⟨Nat.le_of_ble_eq_true rfl, ?_⟩) | (with_reducible refine ⟨_, rfl, ?_⟩) | (with_reducible refine wg_nm (Nat.le_of_ble_eq_true rfl) ?_) | (refine ⟨⟨Nat.le_of_ble_eq_true rfl, Nat.le_of_ble_eq_true rfl⟩, ?_⟩) | (with_reducible refine Or.inl ⟨_, rfl, ?_⟩) | (with_reducible refine Or.inr ⟨_, rfl, ?_⟩))
  refine wo_slS (by omega) ?_
  rw [cut_upto1]
  repeat (first | with_reducible (first | refine ws_seq ?_ | refine nxt_nx ?_ | refine lp_nx ?_ | refine lp_ct ?_ | refine lp_bk ?_ | refine lp_rt ?_ | refine lp_rf ?_ | refine nxt_rt ?_ | refine nxt_rf ?_ | refine nxt_bk ?_ | refine nxt_ct ?_ | refine end_nx ?_ | refine end_rt ?_ | refine end_rf ?_ | refine ws_next ?_ | refine ws_brk ?_ | refine ws_cnt ?_ | refine ws_do ?_ | refine ws_ret ?_ | refine ws_retF ?_ | refine ws_retN ?_ | refine ws_set ?_ | refine ws_acc ?_ | refine ws_par ?_ | refine ws_asg ?_ | refine ws_for ?_ | refine ws_if ?_ | refine we_2 ?_ | refine we_1 ?_ | refine we_n ?_ | refine we_3 ?_ | refine we_c ?_ | refine wo_none ?_ | refine wo_some ?_ | refine wl_cons ?_ | refine wl_nil ?_ | refine we_V ?_ | refine we_own ?_ | refine we_tup ?_ | refine wl_lst ?_ | refine wt_of ?_ | refine wt_or ?_ | refine wt_and ?_ | refine wt_not ?_ | refine we_and ?_ | refine we_or ?_ | refine we_not ?_ | refine we_if ?_ | refine we_isN ?_ | refine we_notN ?_ | refine we_chain ?_ | refine wt_yes ?_ | refine wi_L ?_ | refine wi_T ?_ | refine wi_S ?_ | refine wi_R1 ?_ | refine wi_R2 ?_ | refine wi_R3 ?_ | refine wi_E ?_ | refine we_call ?_ | refine we_callF ?_ | refine we_bm ?_ | refine wg_sb ?_ | refine we_m1 ?_ | refine we_rev ?_ | refine wo_add ?_ | refine wo_sub ?_ | refine wo_neg ?_ | refine wo_cmp ?_ | refine wo_eqI ?_ | refine wo_neI ?_ | refine wo_eqS ?_ | refine wo_neS ?_ | refine wo_eqB ?_ | refine wo_neB ?_ | refine wo_lenL ?_ | refine wo_lenT ?_ | refine wo_lenC ?_ | refine wo_max ?_ | refine wo_min ?_ | refine wo_slL ?_ | refine wo_listC ?_ | refine wo_listL ?_ | refine wo_listT ?_ | refine wo_tupT ?_ | refine wo_tupL ?_ | refine wo_intI ?_ | refine wo_intB ?_ | refine wo_strS ?_ | refine wo_inS ?_ | refine wo_ninS ?_) | ((with_reducible apply we_var); rfl) | ((with_reducible apply ws_frz); rfl) | ((with_reducible apply ws_app); rfl) | ((with_reducible apply ws_extend); rfl) | ((with_reducible apply ws_retA); rfl) | ((with_reducible apply ws_frz0); rfl) | ((with_reducible apply wo_isT); rfl; rfl) | (refine ⟨Nat.le_of_ble_eq_true rfl, ?_⟩) | (with_reducible refine ⟨_, rfl, ?_⟩) | (with_reducible refine wg_nm (Nat.le_of_ble_eq_true rfl) ?_) | (refine ⟨⟨Nat.le_of_ble_eq_true rfl, Nat.le_of_ble_eq_true rfl⟩, ?_⟩) | (with_reducible refine Or.inl ⟨_, rfl, ?_⟩) | (with_reducible refine Or.inr ⟨_, rfl, ?_⟩))
  refine wo_split ⟨by decide, by simp; omega⟩ ?_
  repeat (first | with_reducible (first | refine ws_seq ?_ | refine nxt_nx ?_ | refine lp_nx ?_ | refine lp_ct ?_ | refine lp_bk ?_ | refine lp_rt ?_ | refine lp_rf ?_ | refine nxt_rt ?_ | refine nxt_rf ?_ | refine nxt_bk ?_ | refine nxt_ct ?_ | refine end_nx ?_ | refine end_rt ?_ | refine end_rf ?_ | refine ws_next ?_ | refine ws_brk ?_ | refine ws_cnt ?_ | refine ws_do ?_ | refine ws_ret ?_ | refine ws_retF ?_ | refine ws_retN ?_ | refine ws_set ?_ | refine ws_acc ?_ | refine ws_par ?_ | refine ws_asg ?_ | refine ws_for ?_ | refine ws_if ?_ | refine we_2 ?_ | refine we_1 ?_ | refine we_n ?_ | refine we_3 ?_ | refine we_c ?_ | refine wo_none ?_ | refine wo_some ?_ | refine wl_cons ?_ | refine wl_nil ?_ | refine we_V ?_ | refine we_own ?_ | refine we_tup ?_ | refine wl_lst ?_ | refine wt_of ?_ | refine wt_or ?_ | refine wt_and ?_ | refine wt_not ?_ | refine we_and ?_ | refine we_or ?_ | refine we_not ?_ | refine we_if ?_ | refine we_isN ?_ | refine we_notN ?_ | refine we_chain ?_ | refine wt_yes ?_ | refine wi_L ?_ | refine wi_T ?_ | refine wi_S ?_ | refine wi_R1 ?_ | refine wi_R2 ?_ | refine wi_R3 ?_ | refine wi_E ?_ | refine we_call ?_ | refine we_callF ?_ | refine we_bm ?_ | refine wg_sb ?_ | refine we_m1 ?_ | refine we_rev ?_ | refine wo_add ?_ | refine wo_sub ?_ | refine wo_neg ?_ | refine wo_cmp ?_ | refine wo_eqI ?_ | refine wo_neI ?_ | refine wo_eqS ?_ | refine wo_neS ?_ | refine wo_eqB ?_ | refine wo_neB ?_ | refine wo_lenL ?_ | refine wo_lenT ?_ | refine wo_lenC ?_ | refine wo_max ?_ | refine wo_min ?_ | refine wo_slL ?_ | refine wo_listC ?_ | refine wo_listL ?_ | refine wo_listT ?_ | refine wo_tupT ?_ | refine wo_tupL ?_ | refine wo_intI ?_ | refine wo_intB ?_ | refine wo_strS ?_ | refine wo_inS ?_ | refine wo_ninS ?_) | ((with_reducible apply we_var); rfl) | ((with_reducible apply ws_frz); rfl) | ((with_reducible apply ws_app); rfl) | ((with_reducible apply ws_extend); rfl) | ((with_reducible apply ws_retA); rfl) | ((with_reducible apply ws_frz0); rfl) | ((with_reducible apply wo_isT); rfl; rfl) | (refine ⟨Nat.le_of_ble_eq_true rfl, ?_⟩) | (with_reducible refine ⟨_, rfl, ?_⟩) | (with_reducible refine wg_nm (Nat.le_of_ble_eq_true rfl) ?_) | (refine ⟨⟨Nat.le_of_ble_eq_true rfl, Nat.le_of_ble_eq_true rfl⟩, ?_⟩) | (with_reducible refine Or.inl ⟨_, rfl, ?_⟩) | (with_reducible refine Or.inr ⟨_, rfl, ?_⟩))
  have lt : t = t.take (t.length - 1) ++ [33] := by
    rw [← z2]
    exact (List.take_append_drop _ _).symm
  have c2 : (t.take (t.length - 1)).count 46 = 2 := by
    have := congrArg (List.count 46) lt
    rw [List.count_append] at this
    simp at this
    omega
  have l3 := split_count (c := 46) (t.take (t.length - 1))
  rw [c2] at l3
  have three : ∃ a b B, splitC 46 (t.take (t.length - 1)) = [a, b, B] := by
    match splitC 46 (t.take (t.length - 1)), l3 with
    | [a, b, c], _ => exact ⟨a, b, c, rfl⟩
  obtain ⟨a, b, B, e3⟩ := three
  have lB := split_len (c := 46) (z := t.take (t.length - 1)) (p := B) (by rw [e3]; simp)
  have oB : okS B := fun x hx => ht x (List.mem_of_mem_take (split_mem (c := 46) (z := t.take (t.length - 1)) (p := B) (by rw [e3]; simp) hx))
  have lB2 : B.length ≤ 10000 := by
    simp at lB
    omega
  rw [e3]
  refine wo_ixL (d := .str B) (by decide) rfl ?_
  repeat (first | with_reducible (first | refine ws_seq ?_ | refine nxt_nx ?_ | refine lp_nx ?_ | refine lp_ct ?_ | refine lp_bk ?_ | refine lp_rt ?_ | refine lp_rf ?_ | refine nxt_rt ?_ | refine nxt_rf ?_ | refine nxt_bk ?_ | refine nxt_ct ?_ | refine end_nx ?_ | refine end_rt ?_ | refine end_rf ?_ | refine ws_next ?_ | refine ws_brk ?_ | refine ws_cnt ?_ | refine ws_do ?_ | refine ws_ret ?_ | refine ws_retF ?_ | refine ws_retN ?_ | refine ws_set ?_ | refine ws_acc ?_ | refine ws_par ?_ | refine ws_asg ?_ | refine ws_for ?_ | refine ws_if ?_ | refine we_2 ?_ | refine we_1 ?_ | refine we_n ?_ | refine we_3 ?_ | refine we_c ?_ | refine wo_none ?_ | refine wo_some ?_ | refine wl_cons ?_ | refine wl_nil ?_ | refine we_V ?_ | refine we_own ?_ | refine we_tup ?_ | refine wl_lst ?_ | refine wt_of ?_ | refine wt_or ?_ | refine wt_and ?_ | refine wt_not ?_ | refine we_and ?_ | refine we_or ?_ | refine we_not ?_ | refine we_if ?_ | refine we_isN ?_ | refine we_notN ?_ | refine we_chain ?_ | refine wt_yes ?_ | refine wi_L ?_ | refine wi_T ?_ | refine wi_S ?_ | refine wi_R1 ?_ | refine wi_R2 ?_ | refine wi_R3 ?_ | refine wi_E ?_ | refine we_call ?_ | refine we_callF ?_ | refine we_bm ?_ | refine wg_sb ?_ | refine we_m1 ?_ | refine we_rev ?_ | refine wo_add ?_ | refine wo_sub ?_ | refine wo_neg ?_ | refine wo_cmp ?_ | refine wo_eqI ?_ | refine wo_neI ?_ | refine wo_eqS ?_ | refine wo_neS ?_ | refine wo_eqB ?_ | refine wo_neB ?_ | refine wo_lenL ?_ | refine wo_lenT ?_ | refine wo_lenC ?_ | refine wo_max ?_ | refine wo_min ?_ | refine wo_slL ?_ | refine wo_listC ?_ | refine wo_listL ?_ | refine wo_listT ?_ | refine wo_tupT ?_ | refine wo_tupL ?_ | refine wo_intI ?_ | refine wo_intB ?_ | refine wo_strS ?_ | refine wo_inS ?_ | refine wo_ninS ?_) | ((with_reducible apply we_var); rfl) | ((with_reducible apply ws_frz); rfl) | ((with_reducible apply ws_app); rfl) | ((with_reducible apply ws_extend); rfl) | ((with_reducible apply ws_retA); rfl) | ((with_reducible apply ws_frz0); rfl) | ((with_reducible apply wo_isT); rfl; rfl) | (refine ⟨Nat.le_of_ble_eq_true rfl, ?_⟩) | (with_reducible refine ⟨_, rfl, ?_⟩) | (with_reducible refine wg_nm (Nat.le_of_ble_eq_true rfl) ?_) | (refine ⟨⟨Nat.le_of_ble_eq_true rfl, Nat.le_of_ble_eq_true rfl⟩, ?_⟩) | (with_reducible refine Or.inl ⟨_, rfl, ?_⟩) | (with_reducible refine Or.inr ⟨_, rfl, ?_⟩))
  refine wl_signs (A := sb) (fun c => rfl) (fun c => rfl) ?_
  repeat (first | with_reducible (first | refine ws_seq ?_ | refine nxt_nx ?_ | refine lp_nx ?_ | refine lp_ct ?_ | refine lp_bk ?_ | refine lp_rt ?_ | refine lp_rf ?_ | refine nxt_rt ?_ | refine nxt_rf ?_ | refine nxt_bk ?_ | refine nxt_ct ?_ | refine end_nx ?_ | refine end_rt ?_ | refine end_rf ?_ | refine ws_next ?_ | refine ws_brk ?_ | refine ws_cnt ?_ | refine ws_do ?_ | refine ws_ret ?_ | refine ws_retF ?_ | refine ws_retN ?_ | refine ws_set ?_ | refine ws_acc ?_ | refine ws_par ?_ | refine ws_asg ?_ | refine ws_for ?_ | refine ws_if ?_ | refine we_2 ?_ | refine we_1 ?_ | refine we_n ?_ | refine we_3 ?_ | refine we_c ?_ | refine wo_none ?_ | refine wo_some ?_ | refine wl_cons ?_ | refine wl_nil ?_ | refine we_V ?_ | refine we_own ?_ | refine we_tup ?_ | refine wl_lst ?_ | refine wt_of ?_ | refine wt_or ?_ | refine wt_and ?_ | refine wt_not ?_ | refine we_and ?_ | refine we_or ?_ | refine we_not ?_ | refine we_if ?_ | refine we_isN ?_ | refine we_notN ?_ | refine we_chain ?_ | refine wt_yes ?_ | refine wi_L ?_ | refine wi_T ?_ | refine wi_S ?_ | refine wi_R1 ?_ | refine wi_R2 ?_ | refine wi_R3 ?_ | refine wi_E ?_ | refine we_call ?_ | refine we_callF ?_ | refine we_bm ?_ | refine wg_sb ?_ | refine we_m1 ?_ | refine we_rev ?_ | refine wo_add ?_ | refine wo_sub ?_ | refine wo_neg ?_ | refine wo_cmp ?_ | refine wo_eqI ?_ | refine wo_neI ?_ | refine wo_eqS ?_ | refine wo_neS ?_ | refine wo_eqB ?_ | refine wo_neB ?_ | refine wo_lenL ?_ | refine wo_lenT ?_ | refine wo_lenC ?_ | refine wo_max ?_ | refine wo_min ?_ | refine wo_slL ?_ | refine wo_listC ?_ | refine wo_listL ?_ | refine wo_listT ?_ | refine wo_tupT ?_ | refine wo_tupL ?_ | refine wo_intI ?_ | refine wo_intB ?_ | refine wo_strS ?_ | refine wo_inS ?_ | refine wo_ninS ?_) | ((with_reducible apply we_var); rfl) | ((with_reducible apply ws_frz); rfl) | ((with_reducible apply ws_app); rfl) | ((with_reducible apply ws_extend); rfl) | ((with_reducible apply ws_retA); rfl) | ((with_reducible apply ws_frz0); rfl) | ((with_reducible apply wo_isT); rfl; rfl) | (refine ⟨Nat.le_of_ble_eq_true rfl, ?_⟩) | (with_reducible refine ⟨_, rfl, ?_⟩) | (with_reducible refine wg_nm (Nat.le_of_ble_eq_true rfl) ?_) | (refine ⟨⟨Nat.le_of_ble_eq_true rfl, Nat.le_of_ble_eq_true rfl⟩, ?_⟩) | (with_reducible refine Or.inl ⟨_, rfl, ?_⟩) | (with_reducible refine Or.inr ⟨_, rfl, ?_⟩))
  refine ⟨by omega, fun c => ?_, ?_⟩
  · repeat (first | with_reducible (first | refine ws_seq ?_ | refine nxt_nx ?_ | refine lp_nx ?_ | refine lp_ct ?_ | refine lp_bk ?_ | refine lp_rt ?_ | refine lp_rf ?_ | refine nxt_rt ?_ | refine nxt_rf ?_ | refine nxt_bk ?_ | refine nxt_ct ?_ | refine end_nx ?_ | refine end_rt ?_ | refine end_rf ?_ | refine ws_next ?_ | refine ws_brk ?_ | refine ws_cnt ?_ | refine ws_do ?_ | refine ws_ret ?_ | refine ws_retF ?_ | refine ws_retN ?_ | refine ws_set ?_ | refine ws_acc ?_ | refine ws_par ?_ | refine ws_asg ?_ | refine ws_for ?_ | refine ws_if ?_ | refine we_2 ?_ | refine we_1 ?_ | refine we_n ?_ | refine we_3 ?_ | refine we_c ?_ | refine wo_none ?_ | refine wo_some ?_ | refine wl_cons ?_ | refine wl_nil ?_ | refine we_V ?_ | refine we_own ?_ | refine we_tup ?_ | refine wl_lst ?_ | refine wt_of ?_ | refine wt_or ?_ | refine wt_and ?_ | refine wt_not ?_ | refine we_and ?_ | refine we_or ?_ | refine we_not ?_ | refine we_if ?_ | refine we_isN ?_ | refine we_notN ?_ | refine we_chain ?_ | refine wt_yes ?_ | refine wi_L ?_ | refine wi_T ?_ | refine wi_S ?_ | refine wi_R1 ?_ | refine wi_R2 ?_ | refine wi_R3 ?_ | refine wi_E ?_ | refine we_call ?_ | refine we_callF ?_ | refine we_bm ?_ | refine wg_sb ?_ | refine we_m1 ?_ | refine we_rev ?_ | refine wo_add ?_ | refine wo_sub ?_ | refine wo_neg ?_ | refine wo_cmp ?_ | refine wo_eqI ?_ | refine wo_neI ?_ | refine wo_eqS ?_ | refine wo_neS ?_ | refine wo_eqB ?_ | refine wo_neB ?_ | refine wo_lenL ?_ | refine wo_lenT ?_ | refine wo_lenC ?_ | refine wo_max ?_ | refine wo_min ?_ | refine wo_slL ?_ | refine wo_listC ?_ | refine wo_listL ?_ | refine wo_listT ?_ | refine wo_tupT ?_ | refine wo_tupL ?_ | refine wo_intI ?_ | refine wo_intB ?_ | refine wo_strS ?_ | refine wo_inS ?_ | refine wo_ninS ?_) | ((with_reducible apply we_var); rfl) | ((with_reducible apply ws_frz); rfl) | ((with_reducible apply ws_app); rfl) | ((with_reducible apply ws_extend); rfl) | ((with_reducible apply ws_retA); rfl) | ((with_reducible apply ws_frz0); rfl) | ((with_reducible apply wo_isT); rfl; rfl) | (refine ⟨Nat.le_of_ble_eq_true rfl, ?_⟩) | (with_reducible refine ⟨_, rfl, ?_⟩) | (with_reducible refine wg_nm (Nat.le_of_ble_eq_true rfl) ?_) | (refine ⟨⟨Nat.le_of_ble_eq_true rfl, Nat.le_of_ble_eq_true rfl⟩, ?_⟩) | (with_reducible refine Or.inl ⟨_, rfl, ?_⟩) | (with_reducible refine Or.inr ⟨_, rfl, ?_⟩))
    exact ⟨rfl, rfl⟩
  repeat (first | with_reducible (first | refine ws_seq ?_ | refine nxt_nx ?_ | refine lp_nx ?_ | refine lp_ct ?_ | refine lp_bk ?_ | refine lp_rt ?_ | refine lp_rf ?_ | refine nxt_rt ?_ | refine nxt_rf ?_ | refine nxt_bk ?_ | refine nxt_ct ?_ | refine end_nx ?_ | refine end_rt ?_ | refine end_rf ?_ | refine ws_next ?_ | refine ws_brk ?_ | refine ws_cnt ?_ | refine ws_do ?_ | refine ws_ret ?_ | refine ws_retF ?_ | refine ws_retN ?_ | refine ws_set ?_ | refine ws_acc ?_ | refine ws_par ?_ | refine ws_asg ?_ | refine ws_for ?_ | refine ws_if ?_ | refine we_2 ?_ | refine we_1 ?_ | refine we_n ?_ | refine we_3 ?_ | refine we_c ?_ | refine wo_none ?_ | refine wo_some ?_ | refine wl_cons ?_ | refine wl_nil ?_ | refine we_V ?_ | refine we_own ?_ | refine we_tup ?_ | refine wl_lst ?_ | refine wt_of ?_ | refine wt_or ?_ | refine wt_and ?_ | refine wt_not ?_ | refine we_and ?_ | refine we_or ?_ | refine we_not ?_ | refine we_if ?_ | refine we_isN ?_ | refine we_notN ?_ | refine we_chain ?_ | refine wt_yes ?_ | refine wi_L ?_ | refine wi_T ?_ | refine wi_S ?_ | refine wi_R1 ?_ | refine wi_R2 ?_ | refine wi_R3 ?_ | refine wi_E ?_ | refine we_call ?_ | refine we_callF ?_ | refine we_bm ?_ | refine wg_sb ?_ | refine we_m1 ?_ | refine we_rev ?_ | refine wo_add ?_ | refine wo_sub ?_ | refine wo_neg ?_ | refine wo_cmp ?_ | refine wo_eqI ?_ | refine wo_neI ?_ | refine wo_eqS ?_ | refine wo_neS ?_ | refine wo_eqB ?_ | refine wo_neB ?_ | refine wo_lenL ?_ | refine wo_lenT ?_ | refine wo_lenC ?_ | refine wo_max ?_ | refine wo_min ?_ | refine wo_slL ?_ | refine wo_listC ?_ | refine wo_listL ?_ | refine wo_listT ?_ | refine wo_tupT ?_ | refine wo_tupL ?_ | refine wo_intI ?_ | refine wo_intB ?_ | refine wo_strS ?_ | refine wo_inS ?_ | refine wo_ninS ?_) | ((with_reducible apply we_var); rfl) | ((with_reducible apply ws_frz); rfl) | ((with_reducible apply ws_app); rfl) | ((with_reducible apply ws_extend); rfl) | ((with_reducible apply ws_retA); rfl) | ((with_reducible apply ws_frz0); rfl) | ((with_reducible apply wo_isT); rfl; rfl) | (refine ⟨Nat.le_of_ble_eq_true rfl, ?_⟩) | (with_reducible refine ⟨_, rfl, ?_⟩) | (with_reducible refine wg_nm (Nat.le_of_ble_eq_true rfl) ?_) | (refine ⟨⟨Nat.le_of_ble_eq_true rfl, Nat.le_of_ble_eq_true rfl⟩, ?_⟩) | (with_reducible refine Or.inl ⟨_, rfl, ?_⟩) | (with_reducible refine Or.inr ⟨_, rfl, ?_⟩))
  refine wo_neNil (okS_filter oB) ?_
  rw [filt_empty]
  repeat (first | with_reducible (first | refine ws_seq ?_ | refine nxt_nx ?_ | refine lp_nx ?_ | refine lp_ct ?_ | refine lp_bk ?_ | refine lp_rt ?_ | refine lp_rf ?_ | refine nxt_rt ?_ | refine nxt_rf ?_ | refine nxt_bk ?_ | refine nxt_ct ?_ | refine end_nx ?_ | refine end_rt ?_ | refine end_rf ?_ | refine ws_next ?_ | refine ws_brk ?_ | refine ws_cnt ?_ | refine ws_do ?_ | refine ws_ret ?_ | refine ws_retF ?_ | refine ws_retN ?_ | refine ws_set ?_ | refine ws_acc ?_ | refine ws_par ?_ | refine ws_asg ?_ | refine ws_for ?_ | refine ws_if ?_ | refine we_2 ?_ | refine we_1 ?_ | refine we_n ?_ | refine we_3 ?_ | refine we_c ?_ | refine wo_none ?_ | refine wo_some ?_ | refine wl_cons ?_ | refine wl_nil ?_ | refine we_V ?_ | refine we_own ?_ | refine we_tup ?_ | refine wl_lst ?_ | refine wt_of ?_ | refine wt_or ?_ | refine wt_and ?_ | refine wt_not ?_ | refine we_and ?_ | refine we_or ?_ | refine we_not ?_ | refine we_if ?_ | refine we_isN ?_ | refine we_notN ?_ | refine we_chain ?_ | refine wt_yes ?_ | refine wi_L ?_ | refine wi_T ?_ | refine wi_S ?_ | refine wi_R1 ?_ | refine wi_R2 ?_ | refine wi_R3 ?_ | refine wi_E ?_ | refine we_call ?_ | refine we_callF ?_ | refine we_bm ?_ | refine wg_sb ?_ | refine we_m1 ?_ | refine we_rev ?_ | refine wo_add ?_ | refine wo_sub ?_ | refine wo_neg ?_ | refine wo_cmp ?_ | refine wo_eqI ?_ | refine wo_neI ?_ | refine wo_eqS ?_ | refine wo_neS ?_ | refine wo_eqB ?_ | refine wo_neB ?_ | refine wo_lenL ?_ | refine wo_lenT ?_ | refine wo_lenC ?_ | refine wo_max ?_ | refine wo_min ?_ | refine wo_slL ?_ | refine wo_listC ?_ | refine wo_listL ?_ | refine wo_listT ?_ | refine wo_tupT ?_ | refine wo_tupL ?_ | refine wo_intI ?_ | refine wo_intB ?_ | refine wo_strS ?_ | refine wo_inS ?_ | refine wo_ninS ?_) | ((with_reducible apply we_var); rfl) | ((with_reducible apply ws_frz); rfl) | ((with_reducible apply ws_app); rfl) | ((with_reducible apply ws_extend); rfl) | ((with_reducible apply ws_retA); rfl) | ((with_reducible apply ws_frz0); rfl) | ((with_reducible apply wo_isT); rfl; rfl) | (refine ⟨Nat.le_of_ble_eq_true rfl, ?_⟩) | (with_reducible refine ⟨_, rfl, ?_⟩) | (with_reducible refine wg_nm (Nat.le_of_ble_eq_true rfl) ?_) | (refine ⟨⟨Nat.le_of_ble_eq_true rfl, Nat.le_of_ble_eq_true rfl⟩, ?_⟩) | (with_reducible refine Or.inl ⟨_, rfl, ?_⟩) | (with_reducible refine Or.inr ⟨_, rfl, ?_⟩))
  refine ⟨fun z => ?_, fun z => ?_⟩
  · have z := bt z
    repeat (first | with_reducible (first | refine ws_seq ?_ | refine nxt_nx ?_ | refine lp_nx ?_ | refine lp_ct ?_ | refine lp_bk ?_ | refine lp_rt ?_ | refine lp_rf ?_ | refine nxt_rt ?_ | refine nxt_rf ?_ | refine nxt_bk ?_ | refine nxt_ct ?_ | refine end_nx ?_ | refine end_rt ?_ | refine end_rf ?_ | refine ws_next ?_ | refine ws_brk ?_ | refine ws_cnt ?_ | refine ws_do ?_ | refine ws_ret ?_ | refine ws_retF ?_ | refine ws_retN ?_ | refine ws_set ?_ | refine ws_acc ?_ | refine ws_par ?_ | refine ws_asg ?_ | refine ws_for ?_ | refine ws_if ?_ | refine we_2 ?_ | refine we_1 ?_ | refine we_n ?_ | refine we_3 ?_ | refine we_c ?_ | refine wo_none ?_ | refine wo_some ?_ | refine wl_cons ?_ | refine wl_nil ?_ | refine we_V ?_ | refine we_own ?_ | refine we_tup ?_ | refine wl_lst ?_ | refine wt_of ?_ | refine wt_or ?_ | refine wt_and ?_ | refine wt_not ?_ | refine we_and ?_ | refine we_or ?_ | refine we_not ?_ | refine we_if ?_ | refine we_isN ?_ | refine we_notN ?_ | refine we_chain ?_ | refine wt_yes ?_ | refine wi_L ?_ | refine wi_T ?_ | refine wi_S ?_ | refine wi_R1 ?_ | refine wi_R2 ?_ | refine wi_R3 ?_ | refine wi_E ?_ | refine we_call ?_ | refine we_callF ?_ | refine we_bm ?_ | refine wg_sb ?_ | refine we_m1 ?_ | refine we_rev ?_ | refine wo_add ?_ | refine wo_sub ?_ | refine wo_neg ?_ | refine wo_cmp ?_ | refine wo_eqI ?_ | refine wo_neI ?_ | refine wo_eqS ?_ | refine wo_neS ?_ | refine wo_eqB ?_ | refine wo_neB ?_ | refine wo_lenL ?_ | refine wo_lenT ?_ | refine wo_lenC ?_ | refine wo_max ?_ | refine wo_min ?_ | refine wo_slL ?_ | refine wo_listC ?_ | refine wo_listL ?_ | refine wo_listT ?_ | refine wo_tupT ?_ | refine wo_tupL ?_ | refine wo_intI ?_ | refine wo_intB ?_ | refine wo_strS ?_ | refine wo_inS ?_ | refine wo_ninS ?_) | ((with_reducible apply we_var); rfl) | ((with_reducible apply ws_frz); rfl) | ((with_reducible apply ws_app); rfl) | ((with_reducible apply ws_extend); rfl) | ((with_reducible apply ws_retA); rfl) | ((with_reducible apply ws_frz0); rfl) | ((with_reducible apply wo_isT); rfl; rfl) | (refine ⟨Nat.le_of_ble_eq_true rfl, ?_⟩) | (with_reducible refine ⟨_, rfl, ?_⟩) | (with_reducible refine wg_nm (Nat.le_of_ble_eq_true rfl) ?_) | (refine ⟨⟨Nat.le_of_ble_eq_true rfl, Nat.le_of_ble_eq_true rfl⟩, ?_⟩) | (with_reducible refine Or.inl ⟨_, rfl, ?_⟩) | (with_reducible refine Or.inr ⟨_, rfl, ?_⟩))
    have e : lunpV t = none := by
      unfold lunpV
      rw [if_pos ⟨by omega, z2⟩, e3]
      dsimp only
      rw [if_neg fun q => z q.1]
    rw [e]
    exact ⟨rfl, rfl⟩
  have z3 := bd z
  repeat (first | with_reducible (first | refine ws_seq ?_ | refine nxt_nx ?_ | refine lp_nx ?_ | refine lp_ct ?_ | refine lp_bk ?_ | refine lp_rt ?_ | refine lp_rf ?_ | refine nxt_rt ?_ | refine nxt_rf ?_ | refine nxt_bk ?_ | refine nxt_ct ?_ | refine end_nx ?_ | refine end_rt ?_ | refine end_rf ?_ | refine ws_next ?_ | refine ws_brk ?_ | refine ws_cnt ?_ | refine ws_do ?_ | refine ws_ret ?_ | refine ws_retF ?_ | refine ws_retN ?_ | refine ws_set ?_ | refine ws_acc ?_ | refine ws_par ?_ | refine ws_asg ?_ | refine ws_for ?_ | refine ws_if ?_ | refine we_2 ?_ | refine we_1 ?_ | refine we_n ?_ | refine we_3 ?_ | refine we_c ?_ | refine wo_none ?_ | refine wo_some ?_ | refine wl_cons ?_ | refine wl_nil ?_ | refine we_V ?_ | refine we_own ?_ | refine we_tup ?_ | refine wl_lst ?_ | refine wt_of ?_ | refine wt_or ?_ | refine wt_and ?_ | refine wt_not ?_ | refine we_and ?_ | refine we_or ?_ | refine we_not ?_ | refine we_if ?_ | refine we_isN ?_ | refine we_notN ?_ | refine we_chain ?_ | refine wt_yes ?_ | refine wi_L ?_ | refine wi_T ?_ | refine wi_S ?_ | refine wi_R1 ?_ | refine wi_R2 ?_ | refine wi_R3 ?_ | refine wi_E ?_ | refine we_call ?_ | refine we_callF ?_ | refine we_bm ?_ | refine wg_sb ?_ | refine we_m1 ?_ | refine we_rev ?_ | refine wo_add ?_ | refine wo_sub ?_ | refine wo_neg ?_ | refine wo_cmp ?_ | refine wo_eqI ?_ | refine wo_neI ?_ | refine wo_eqS ?_ | refine wo_neS ?_ | refine wo_eqB ?_ | refine wo_neB ?_ | refine wo_lenL ?_ | refine wo_lenT ?_ | refine wo_lenC ?_ | refine wo_max ?_ | refine wo_min ?_ | refine wo_slL ?_ | refine wo_listC ?_ | refine wo_listL ?_ | refine wo_listT ?_ | refine wo_tupT ?_ | refine wo_tupL ?_ | refine wo_intI ?_ | refine wo_intB ?_ | refine wo_strS ?_ | refine wo_inS ?_ | refine wo_ninS ?_) | ((with_reducible apply we_var); rfl) | ((with_reducible apply ws_frz); rfl) | ((with_reducible apply ws_app); rfl) | ((with_reducible apply ws_extend); rfl) | ((with_reducible apply ws_retA); rfl) | ((with_reducible apply ws_frz0); rfl) | ((with_reducible apply wo_isT); rfl; rfl) | (refine ⟨Nat.le_of_ble_eq_true rfl, ?_⟩) | (with_reducible refine ⟨_, rfl, ?_⟩) | (with_reducible refine wg_nm (Nat.le_of_ble_eq_true rfl) ?_) | (refine ⟨⟨Nat.le_of_ble_eq_true rfl, Nat.le_of_ble_eq_true rfl⟩, ?_⟩) | (with_reducible refine Or.inl ⟨_, rfl, ?_⟩) | (with_reducible refine Or.inr ⟨_, rfl, ?_⟩))
  refine wo_split ⟨by decide, by omega⟩ ?_
  repeat (first | with_reducible (first | refine ws_seq ?_ | refine nxt_nx ?_ | refine lp_nx ?_ | refine lp_ct ?_ | refine lp_bk ?_ | refine lp_rt ?_ | refine lp_rf ?_ | refine nxt_rt ?_ | refine nxt_rf ?_ | refine nxt_bk ?_ | refine nxt_ct ?_ | refine end_nx ?_ | refine end_rt ?_ | refine end_rf ?_ | refine ws_next ?_ | refine ws_brk ?_ | refine ws_cnt ?_ | refine ws_do ?_ | refine ws_ret ?_ | refine ws_retF ?_ | refine ws_retN ?_ | refine ws_set ?_ | refine ws_acc ?_ | refine ws_par ?_ | refine ws_asg ?_ | refine ws_for ?_ | refine ws_if ?_ | refine we_2 ?_ | refine we_1 ?_ | refine we_n ?_ | refine we_3 ?_ | refine we_c ?_ | refine wo_none ?_ | refine wo_some ?_ | refine wl_cons ?_ | refine wl_nil ?_ | refine we_V ?_ | refine we_own ?_ | refine we_tup ?_ | refine wl_lst ?_ | refine wt_of ?_ | refine wt_or ?_ | refine wt_and ?_ | refine wt_not ?_ | refine we_and ?_ | refine we_or ?_ | refine we_not ?_ | refine we_if ?_ | refine we_isN ?_ | refine we_notN ?_ | refine we_chain ?_ | refine wt_yes ?_ | refine wi_L ?_ | refine wi_T ?_ | refine wi_S ?_ | refine wi_R1 ?_ | refine wi_R2 ?_ | refine wi_R3 ?_ | refine wi_E ?_ | refine we_call ?_ | refine we_callF ?_ | refine we_bm ?_ | refine wg_sb ?_ | refine we_m1 ?_ | refine we_rev ?_ | refine wo_add ?_ | refine wo_sub ?_ | refine wo_neg ?_ | refine wo_cmp ?_ | refine wo_eqI ?_ | refine wo_neI ?_ | refine wo_eqS ?_ | refine wo_neS ?_ | refine wo_eqB ?_ | refine wo_neB ?_ | refine wo_lenL ?_ | refine wo_lenT ?_ | refine wo_lenC ?_ | refine wo_max ?_ | refine wo_min ?_ | refine wo_slL ?_ | refine wo_listC ?_ | refine wo_listL ?_ | refine wo_listT ?_ | refine wo_tupT ?_ | refine wo_tupL ?_ | refine wo_intI ?_ | refine wo_intB ?_ | refine wo_strS ?_ | refine wo_inS ?_ | refine wo_ninS ?_) | ((with_reducible apply we_var); rfl) | ((with_reducible apply ws_frz); rfl) | ((with_reducible apply ws_app); rfl) | ((with_reducible apply ws_extend); rfl) | ((with_reducible apply ws_retA); rfl) | ((with_reducible apply ws_frz0); rfl) | ((with_reducible apply wo_isT); rfl; rfl) | (refine ⟨Nat.le_of_ble_eq_true rfl, ?_⟩) | (with_reducible refine ⟨_, rfl, ?_⟩) | (with_reducible refine wg_nm (Nat.le_of_ble_eq_true rfl) ?_) | (refine ⟨⟨Nat.le_of_ble_eq_true rfl, Nat.le_of_ble_eq_true rfl⟩, ?_⟩) | (with_reducible refine Or.inl ⟨_, rfl, ?_⟩) | (with_reducible refine Or.inr ⟨_, rfl, ?_⟩))
  have hs := sum_split (c := 124) B
  refine (lpacked_ok' (fs := splitC 124 B) rfl (by omega) (by rw [join_split]; exact z3) (by rw [join_split]; omega)).mono fun o S1 h => ?_
  obtain ⟨rfl, rfl⟩ := h
  repeat (first | with_reducible (first | refine ws_seq ?_ | refine nxt_nx ?_ | refine lp_nx ?_ | refine lp_ct ?_ | refine lp_bk ?_ | refine lp_rt ?_ | refine lp_rf ?_ | refine nxt_rt ?_ | refine nxt_rf ?_ | refine nxt_bk ?_ | refine nxt_ct ?_ | refine end_nx ?_ | refine end_rt ?_ | refine end_rf ?_ | refine ws_next ?_ | refine ws_brk ?_ | refine ws_cnt ?_ | refine ws_do ?_ | refine ws_ret ?_ | refine ws_retF ?_ | refine ws_retN ?_ | refine ws_set ?_ | refine ws_acc ?_ | refine ws_par ?_ | refine ws_asg ?_ | refine ws_for ?_ | refine ws_if ?_ | refine we_2 ?_ | refine we_1 ?_ | refine we_n ?_ | refine we_3 ?_ | refine we_c ?_ | refine wo_none ?_ | refine wo_some ?_ | refine wl_cons ?_ | refine wl_nil ?_ | refine we_V ?_ | refine we_own ?_ | refine we_tup ?_ | refine wl_lst ?_ | refine wt_of ?_ | refine wt_or ?_ | refine wt_and ?_ | refine wt_not ?_ | refine we_and ?_ | refine we_or ?_ | refine we_not ?_ | refine we_if ?_ | refine we_isN ?_ | refine we_notN ?_ | refine we_chain ?_ | refine wt_yes ?_ | refine wi_L ?_ | refine wi_T ?_ | refine wi_S ?_ | refine wi_R1 ?_ | refine wi_R2 ?_ | refine wi_R3 ?_ | refine wi_E ?_ | refine we_call ?_ | refine we_callF ?_ | refine we_bm ?_ | refine wg_sb ?_ | refine we_m1 ?_ | refine we_rev ?_ | refine wo_add ?_ | refine wo_sub ?_ | refine wo_neg ?_ | refine wo_cmp ?_ | refine wo_eqI ?_ | refine wo_neI ?_ | refine wo_eqS ?_ | refine wo_neS ?_ | refine wo_eqB ?_ | refine wo_neB ?_ | refine wo_lenL ?_ | refine wo_lenT ?_ | refine wo_lenC ?_ | refine wo_max ?_ | refine wo_min ?_ | refine wo_slL ?_ | refine wo_listC ?_ | refine wo_listL ?_ | refine wo_listT ?_ | refine wo_tupT ?_ | refine wo_tupL ?_ | refine wo_intI ?_ | refine wo_intB ?_ | refine wo_strS ?_ | refine wo_inS ?_ | refine wo_ninS ?_) | ((with_reducible apply we_var); rfl) | ((with_reducible apply ws_frz); rfl) | ((with_reducible apply ws_app); rfl) | ((with_reducible apply ws_extend); rfl) | ((with_reducible apply ws_retA); rfl) | ((with_reducible apply ws_frz0); rfl) | ((with_reducible apply wo_isT); rfl; rfl) | (refine ⟨Nat.le_of_ble_eq_true rfl, ?_⟩) | (with_reducible refine ⟨_, rfl, ?_⟩) | (with_reducible refine wg_nm (Nat.le_of_ble_eq_true rfl) ?_) | (refine ⟨⟨Nat.le_of_ble_eq_true rfl, Nat.le_of_ble_eq_true rfl⟩, ?_⟩) | (with_reducible refine Or.inl ⟨_, rfl, ?_⟩) | (with_reducible refine Or.inr ⟨_, rfl, ?_⟩))
  have e : lunpV t = if (∀ x ∈ B, x ∈ sb) ∧ t = packV (splitC 124 B) then some (splitC 124 B) else none := by
    unfold lunpV
    rw [if_pos ⟨by omega, z2⟩, e3]
  refine ⟨fun z => ?_, fun z => ?_⟩
  · repeat (first | with_reducible (first | refine ws_seq ?_ | refine nxt_nx ?_ | refine lp_nx ?_ | refine lp_ct ?_ | refine lp_bk ?_ | refine lp_rt ?_ | refine lp_rf ?_ | refine nxt_rt ?_ | refine nxt_rf ?_ | refine nxt_bk ?_ | refine nxt_ct ?_ | refine end_nx ?_ | refine end_rt ?_ | refine end_rf ?_ | refine ws_next ?_ | refine ws_brk ?_ | refine ws_cnt ?_ | refine ws_do ?_ | refine ws_ret ?_ | refine ws_retF ?_ | refine ws_retN ?_ | refine ws_set ?_ | refine ws_acc ?_ | refine ws_par ?_ | refine ws_asg ?_ | refine ws_for ?_ | refine ws_if ?_ | refine we_2 ?_ | refine we_1 ?_ | refine we_n ?_ | refine we_3 ?_ | refine we_c ?_ | refine wo_none ?_ | refine wo_some ?_ | refine wl_cons ?_ | refine wl_nil ?_ | refine we_V ?_ | refine we_own ?_ | refine we_tup ?_ | refine wl_lst ?_ | refine wt_of ?_ | refine wt_or ?_ | refine wt_and ?_ | refine wt_not ?_ | refine we_and ?_ | refine we_or ?_ | refine we_not ?_ | refine we_if ?_ | refine we_isN ?_ | refine we_notN ?_ | refine we_chain ?_ | refine wt_yes ?_ | refine wi_L ?_ | refine wi_T ?_ | refine wi_S ?_ | refine wi_R1 ?_ | refine wi_R2 ?_ | refine wi_R3 ?_ | refine wi_E ?_ | refine we_call ?_ | refine we_callF ?_ | refine we_bm ?_ | refine wg_sb ?_ | refine we_m1 ?_ | refine we_rev ?_ | refine wo_add ?_ | refine wo_sub ?_ | refine wo_neg ?_ | refine wo_cmp ?_ | refine wo_eqI ?_ | refine wo_neI ?_ | refine wo_eqS ?_ | refine wo_neS ?_ | refine wo_eqB ?_ | refine wo_neB ?_ | refine wo_lenL ?_ | refine wo_lenT ?_ | refine wo_lenC ?_ | refine wo_max ?_ | refine wo_min ?_ | refine wo_slL ?_ | refine wo_listC ?_ | refine wo_listL ?_ | refine wo_listT ?_ | refine wo_tupT ?_ | refine wo_tupL ?_ | refine wo_intI ?_ | refine wo_intB ?_ | refine wo_strS ?_ | refine wo_inS ?_ | refine wo_ninS ?_) | ((with_reducible apply we_var); rfl) | ((with_reducible apply ws_frz); rfl) | ((with_reducible apply ws_app); rfl) | ((with_reducible apply ws_extend); rfl) | ((with_reducible apply ws_retA); rfl) | ((with_reducible apply ws_frz0); rfl) | ((with_reducible apply wo_isT); rfl; rfl) | (refine ⟨Nat.le_of_ble_eq_true rfl, ?_⟩) | (with_reducible refine ⟨_, rfl, ?_⟩) | (with_reducible refine wg_nm (Nat.le_of_ble_eq_true rfl) ?_) | (refine ⟨⟨Nat.le_of_ble_eq_true rfl, Nat.le_of_ble_eq_true rfl⟩, ?_⟩) | (with_reducible refine Or.inl ⟨_, rfl, ?_⟩) | (with_reducible refine Or.inr ⟨_, rfl, ?_⟩))
    rw [e, if_pos ⟨z3, of_decide_eq_true z⟩]
    exact ⟨rfl, rfl⟩
  · repeat (first | with_reducible (first | refine ws_seq ?_ | refine nxt_nx ?_ | refine lp_nx ?_ | refine lp_ct ?_ | refine lp_bk ?_ | refine lp_rt ?_ | refine lp_rf ?_ | refine nxt_rt ?_ | refine nxt_rf ?_ | refine nxt_bk ?_ | refine nxt_ct ?_ | refine end_nx ?_ | refine end_rt ?_ | refine end_rf ?_ | refine ws_next ?_ | refine ws_brk ?_ | refine ws_cnt ?_ | refine ws_do ?_ | refine ws_ret ?_ | refine ws_retF ?_ | refine ws_retN ?_ | refine ws_set ?_ | refine ws_acc ?_ | refine ws_par ?_ | refine ws_asg ?_ | refine ws_for ?_ | refine ws_if ?_ | refine we_2 ?_ | refine we_1 ?_ | refine we_n ?_ | refine we_3 ?_ | refine we_c ?_ | refine wo_none ?_ | refine wo_some ?_ | refine wl_cons ?_ | refine wl_nil ?_ | refine we_V ?_ | refine we_own ?_ | refine we_tup ?_ | refine wl_lst ?_ | refine wt_of ?_ | refine wt_or ?_ | refine wt_and ?_ | refine wt_not ?_ | refine we_and ?_ | refine we_or ?_ | refine we_not ?_ | refine we_if ?_ | refine we_isN ?_ | refine we_notN ?_ | refine we_chain ?_ | refine wt_yes ?_ | refine wi_L ?_ | refine wi_T ?_ | refine wi_S ?_ | refine wi_R1 ?_ | refine wi_R2 ?_ | refine wi_R3 ?_ | refine wi_E ?_ | refine we_call ?_ | refine we_callF ?_ | refine we_bm ?_ | refine wg_sb ?_ | refine we_m1 ?_ | refine we_rev ?_ | refine wo_add ?_ | refine wo_sub ?_ | refine wo_neg ?_ | refine wo_cmp ?_ | refine wo_eqI ?_ | refine wo_neI ?_ | refine wo_eqS ?_ | refine wo_neS ?_ | refine wo_eqB ?_ | refine wo_neB ?_ | refine wo_lenL ?_ | refine wo_lenT ?_ | refine wo_lenC ?_ | refine wo_max ?_ | refine wo_min ?_ | refine wo_slL ?_ | refine wo_listC ?_ | refine wo_listL ?_ | refine wo_listT ?_ | refine wo_tupT ?_ | refine wo_tupL ?_ | refine wo_intI ?_ | refine wo_intB ?_ | refine wo_strS ?_ | refine wo_inS ?_ | refine wo_ninS ?_) | ((with_reducible apply we_var); rfl) | ((with_reducible apply ws_frz); rfl) | ((with_reducible apply ws_app); rfl) | ((with_reducible apply ws_extend); rfl) | ((with_reducible apply ws_retA); rfl) | ((with_reducible apply ws_frz0); rfl) | ((with_reducible apply wo_isT); rfl; rfl) | (refine ⟨Nat.le_of_ble_eq_true rfl, ?_⟩) | (with_reducible refine ⟨_, rfl, ?_⟩) | (with_reducible refine wg_nm (Nat.le_of_ble_eq_true rfl) ?_) | (refine ⟨⟨Nat.le_of_ble_eq_true rfl, Nat.le_of_ble_eq_true rfl⟩, ?_⟩) | (with_reducible refine Or.inl ⟨_, rfl, ?_⟩) | (with_reducible refine Or.inr ⟨_, rfl, ?_⟩))
    rw [e, if_neg fun q => of_decide_eq_false z q.2]
    exact ⟨rfl, rfl⟩
theorem both_ok {S : Sto} {t : List Nat} (hl : t.length ≤ 10000) (ht : okS t) {P : D → Sto → Prop} {ρ : Rho} {i : Nat} (hi : ρ[i]? = some (.val (.str t))) (h : P (.bl true) S) : W (eN (callE (F_alike 8)) (aCons (eN (callE AH.F_unpacked) (aCons (eVar i) aNil)) (aCons (eN (callE F__law_unpacked) (aCons (eVar i) aNil)) aNil)) ρ S) P := by
  refine we_n (wl_cons (we_n (wl_cons (we_var hi ?_))))
  repeat (first | with_reducible (first | refine ws_seq ?_ | refine nxt_nx ?_ | refine lp_nx ?_ | refine lp_ct ?_ | refine lp_bk ?_ | refine lp_rt ?_ | refine lp_rf ?_ | refine nxt_rt ?_ | refine nxt_rf ?_ | refine nxt_bk ?_ | refine nxt_ct ?_ | refine end_nx ?_ | refine end_rt ?_ | refine end_rf ?_ | refine ws_next ?_ | refine ws_brk ?_ | refine ws_cnt ?_ | refine ws_do ?_ | refine ws_ret ?_ | refine ws_retF ?_ | refine ws_retN ?_ | refine ws_set ?_ | refine ws_acc ?_ | refine ws_par ?_ | refine ws_asg ?_ | refine ws_for ?_ | refine ws_if ?_ | refine we_2 ?_ | refine we_1 ?_ | refine we_n ?_ | refine we_3 ?_ | refine we_c ?_ | refine wo_none ?_ | refine wo_some ?_ | refine wl_cons ?_ | refine wl_nil ?_ | refine we_V ?_ | refine we_own ?_ | refine we_tup ?_ | refine wl_lst ?_ | refine wt_of ?_ | refine wt_or ?_ | refine wt_and ?_ | refine wt_not ?_ | refine we_and ?_ | refine we_or ?_ | refine we_not ?_ | refine we_if ?_ | refine we_isN ?_ | refine we_notN ?_ | refine we_chain ?_ | refine wt_yes ?_ | refine wi_L ?_ | refine wi_T ?_ | refine wi_S ?_ | refine wi_R1 ?_ | refine wi_R2 ?_ | refine wi_R3 ?_ | refine wi_E ?_ | refine we_call ?_ | refine we_callF ?_ | refine we_bm ?_ | refine wg_sb ?_ | refine we_m1 ?_ | refine we_rev ?_ | refine wo_add ?_ | refine wo_sub ?_ | refine wo_neg ?_ | refine wo_cmp ?_ | refine wo_eqI ?_ | refine wo_neI ?_ | refine wo_eqS ?_ | refine wo_neS ?_ | refine wo_eqB ?_ | refine wo_neB ?_ | refine wo_lenL ?_ | refine wo_lenT ?_ | refine wo_lenC ?_ | refine wo_max ?_ | refine wo_min ?_ | refine wo_slL ?_ | refine wo_listC ?_ | refine wo_listL ?_ | refine wo_listT ?_ | refine wo_tupT ?_ | refine wo_tupL ?_ | refine wo_intI ?_ | refine wo_intB ?_ | refine wo_strS ?_ | refine wo_inS ?_ | refine wo_ninS ?_) | ((with_reducible apply we_var); rfl) | ((with_reducible apply ws_frz); rfl) | ((with_reducible apply ws_app); rfl) | ((with_reducible apply ws_extend); rfl) | ((with_reducible apply ws_retA); rfl) | ((with_reducible apply ws_frz0); rfl) | ((with_reducible apply wo_isT); rfl; rfl) | (refine ⟨Nat.le_of_ble_eq_true rfl, ?_⟩) | (with_reducible refine ⟨_, rfl, ?_⟩) | (with_reducible refine wg_nm (Nat.le_of_ble_eq_true rfl) ?_) | (refine ⟨⟨Nat.le_of_ble_eq_true rfl, Nat.le_of_ble_eq_true rfl⟩, ?_⟩) | (with_reducible refine Or.inl ⟨_, rfl, ?_⟩) | (with_reducible refine Or.inr ⟨_, rfl, ?_⟩))
  refine (unpacked_ok (by omega) ht).mono fun o S1 e => ?_
  obtain ⟨rfl, rfl⟩ := e
  have un : ∀ {Q : D → Sto → Prop}, Q (oD (unpackV t)) S1 → (match unpD (unpackV t) with | .v d => Q d S1 | .f es => Q (.lst es) S1) := fun {Q} q => by
    cases e : unpackV t with
    | none => rw [e] at q; exact q
    | some fs => rw [e] at q; exact q
  refine un (Q := fun d S1 => W (aCons (eN (callE F__law_unpacked) (aCons (eVar i) aNil)) aNil ρ S1) fun y S2 => W (callE (F_alike 8) (d :: y) S2) P) ?_
  refine wl_cons (we_n (wl_cons (we_var hi ?_)))
  repeat (first | with_reducible (first | refine ws_seq ?_ | refine nxt_nx ?_ | refine lp_nx ?_ | refine lp_ct ?_ | refine lp_bk ?_ | refine lp_rt ?_ | refine lp_rf ?_ | refine nxt_rt ?_ | refine nxt_rf ?_ | refine nxt_bk ?_ | refine nxt_ct ?_ | refine end_nx ?_ | refine end_rt ?_ | refine end_rf ?_ | refine ws_next ?_ | refine ws_brk ?_ | refine ws_cnt ?_ | refine ws_do ?_ | refine ws_ret ?_ | refine ws_retF ?_ | refine ws_retN ?_ | refine ws_set ?_ | refine ws_acc ?_ | refine ws_par ?_ | refine ws_asg ?_ | refine ws_for ?_ | refine ws_if ?_ | refine we_2 ?_ | refine we_1 ?_ | refine we_n ?_ | refine we_3 ?_ | refine we_c ?_ | refine wo_none ?_ | refine wo_some ?_ | refine wl_cons ?_ | refine wl_nil ?_ | refine we_V ?_ | refine we_own ?_ | refine we_tup ?_ | refine wl_lst ?_ | refine wt_of ?_ | refine wt_or ?_ | refine wt_and ?_ | refine wt_not ?_ | refine we_and ?_ | refine we_or ?_ | refine we_not ?_ | refine we_if ?_ | refine we_isN ?_ | refine we_notN ?_ | refine we_chain ?_ | refine wt_yes ?_ | refine wi_L ?_ | refine wi_T ?_ | refine wi_S ?_ | refine wi_R1 ?_ | refine wi_R2 ?_ | refine wi_R3 ?_ | refine wi_E ?_ | refine we_call ?_ | refine we_callF ?_ | refine we_bm ?_ | refine wg_sb ?_ | refine we_m1 ?_ | refine we_rev ?_ | refine wo_add ?_ | refine wo_sub ?_ | refine wo_neg ?_ | refine wo_cmp ?_ | refine wo_eqI ?_ | refine wo_neI ?_ | refine wo_eqS ?_ | refine wo_neS ?_ | refine wo_eqB ?_ | refine wo_neB ?_ | refine wo_lenL ?_ | refine wo_lenT ?_ | refine wo_lenC ?_ | refine wo_max ?_ | refine wo_min ?_ | refine wo_slL ?_ | refine wo_listC ?_ | refine wo_listL ?_ | refine wo_listT ?_ | refine wo_tupT ?_ | refine wo_tupL ?_ | refine wo_intI ?_ | refine wo_intB ?_ | refine wo_strS ?_ | refine wo_inS ?_ | refine wo_ninS ?_) | ((with_reducible apply we_var); rfl) | ((with_reducible apply ws_frz); rfl) | ((with_reducible apply ws_app); rfl) | ((with_reducible apply ws_extend); rfl) | ((with_reducible apply ws_retA); rfl) | ((with_reducible apply ws_frz0); rfl) | ((with_reducible apply wo_isT); rfl; rfl) | (refine ⟨Nat.le_of_ble_eq_true rfl, ?_⟩) | (with_reducible refine ⟨_, rfl, ?_⟩) | (with_reducible refine wg_nm (Nat.le_of_ble_eq_true rfl) ?_) | (refine ⟨⟨Nat.le_of_ble_eq_true rfl, Nat.le_of_ble_eq_true rfl⟩, ?_⟩) | (with_reducible refine Or.inl ⟨_, rfl, ?_⟩) | (with_reducible refine Or.inr ⟨_, rfl, ?_⟩))
  refine (lunp_ok hl ht).mono fun o S1 e => ?_
  obtain ⟨rfl, rfl⟩ := e
  repeat (first | with_reducible (first | refine ws_seq ?_ | refine nxt_nx ?_ | refine lp_nx ?_ | refine lp_ct ?_ | refine lp_bk ?_ | refine lp_rt ?_ | refine lp_rf ?_ | refine nxt_rt ?_ | refine nxt_rf ?_ | refine nxt_bk ?_ | refine nxt_ct ?_ | refine end_nx ?_ | refine end_rt ?_ | refine end_rf ?_ | refine ws_next ?_ | refine ws_brk ?_ | refine ws_cnt ?_ | refine ws_do ?_ | refine ws_ret ?_ | refine ws_retF ?_ | refine ws_retN ?_ | refine ws_set ?_ | refine ws_acc ?_ | refine ws_par ?_ | refine ws_asg ?_ | refine ws_for ?_ | refine ws_if ?_ | refine we_2 ?_ | refine we_1 ?_ | refine we_n ?_ | refine we_3 ?_ | refine we_c ?_ | refine wo_none ?_ | refine wo_some ?_ | refine wl_cons ?_ | refine wl_nil ?_ | refine we_V ?_ | refine we_own ?_ | refine we_tup ?_ | refine wl_lst ?_ | refine wt_of ?_ | refine wt_or ?_ | refine wt_and ?_ | refine wt_not ?_ | refine we_and ?_ | refine we_or ?_ | refine we_not ?_ | refine we_if ?_ | refine we_isN ?_ | refine we_notN ?_ | refine we_chain ?_ | refine wt_yes ?_ | refine wi_L ?_ | refine wi_T ?_ | refine wi_S ?_ | refine wi_R1 ?_ | refine wi_R2 ?_ | refine wi_R3 ?_ | refine wi_E ?_ | refine we_call ?_ | refine we_callF ?_ | refine we_bm ?_ | refine wg_sb ?_ | refine we_m1 ?_ | refine we_rev ?_ | refine wo_add ?_ | refine wo_sub ?_ | refine wo_neg ?_ | refine wo_cmp ?_ | refine wo_eqI ?_ | refine wo_neI ?_ | refine wo_eqS ?_ | refine wo_neS ?_ | refine wo_eqB ?_ | refine wo_neB ?_ | refine wo_lenL ?_ | refine wo_lenT ?_ | refine wo_lenC ?_ | refine wo_max ?_ | refine wo_min ?_ | refine wo_slL ?_ | refine wo_listC ?_ | refine wo_listL ?_ | refine wo_listT ?_ | refine wo_tupT ?_ | refine wo_tupL ?_ | refine wo_intI ?_ | refine wo_intB ?_ | refine wo_strS ?_ | refine wo_inS ?_ | refine wo_ninS ?_) | ((with_reducible apply we_var); rfl) | ((with_reducible apply ws_frz); rfl) | ((with_reducible apply ws_app); rfl) | ((with_reducible apply ws_extend); rfl) | ((with_reducible apply ws_retA); rfl) | ((with_reducible apply ws_frz0); rfl) | ((with_reducible apply wo_isT); rfl; rfl) | (refine ⟨Nat.le_of_ble_eq_true rfl, ?_⟩) | (with_reducible refine ⟨_, rfl, ?_⟩) | (with_reducible refine wg_nm (Nat.le_of_ble_eq_true rfl) ?_) | (refine ⟨⟨Nat.le_of_ble_eq_true rfl, Nat.le_of_ble_eq_true rfl⟩, ?_⟩) | (with_reducible refine Or.inl ⟨_, rfl, ?_⟩) | (with_reducible refine Or.inr ⟨_, rfl, ?_⟩))
  rw [unp_eq (by omega)]
  have ak : Ak S1 8 (oD (unpackV t)) (oD (unpackV t)) := by
    cases e : unpackV t with
    | none => exact .non
    | some fs =>
      have := (unpack_is e).2.le
      exact ak_strs (zs := fs) rfl rfl (by omega)
  refine (alike_ok ak).mono fun o S2 e => ?_
  obtain ⟨rfl, rfl⟩ := e
  exact h
def od : List Nat := [97, 98, 99, 100, 101, 102, 103, 104, 105, 106, 107, 108, 109, 110, 111, 112, 113, 114, 115, 116, 117, 118, 119, 120, 121, 122, 48, 49, 50, 51, 52, 53, 54, 55, 56, 57, 32, 62, 63, 60, 59, 124, 46, 33, 45, 35, 65, 90, 81, 61, 64, 10, 126, 95]
theorem od_ok : ∀ c ∈ od, c < 1114112 := by decide
theorem okS_app {x y : List Nat} (hx : okS x) (hy : okS y) : okS (x ++ y) := fun c hc => by
  rcases List.mem_append.mp hc with h | h
  · exact hx c h
  · exact hy c h
theorem okS_take {x : List Nat} {n : Nat} (hx : okS x) : okS (x.take n) := fun c hc => hx c (List.mem_of_mem_take hc)
theorem okS_drop {x : List Nat} {n : Nat} (hx : okS x) : okS (x.drop n) := fun c hc => hx c (List.mem_of_mem_drop hc)
theorem other_ok {S : Sto} {l m : Nat} {t : List Nat} (b : Box S l m) (hl : t.length ≤ 9000) (ht : okS t) : W (F__law_otherwise [.ref l, .str t] S) fun o S' => ∃ z : List Nat, o = .v (.str z) ∧ z.length ≤ t.length + 10 ∧ okS z ∧ Bx l m S S' := by
  refine w_run rfl ?_
  show WS (b__law_otherwise [.val (.ref l), .val (.str t), .no, .no, .no, .no, .no] S) _
  unfold b__law_otherwise
  rw [e_take]
  repeat (first | with_reducible (first | refine ws_seq ?_ | refine nxt_nx ?_ | refine lp_nx ?_ | refine lp_ct ?_ | refine lp_bk ?_ | refine lp_rt ?_ | refine lp_rf ?_ | refine nxt_rt ?_ | refine nxt_rf ?_ | refine nxt_bk ?_ | refine nxt_ct ?_ | refine end_nx ?_ | refine end_rt ?_ | refine end_rf ?_ | refine ws_next ?_ | refine ws_brk ?_ | refine ws_cnt ?_ | refine ws_do ?_ | refine ws_ret ?_ | refine ws_retF ?_ | refine ws_retN ?_ | refine ws_set ?_ | refine ws_acc ?_ | refine ws_par ?_ | refine ws_asg ?_ | refine ws_for ?_ | refine ws_if ?_ | refine we_2 ?_ | refine we_1 ?_ | refine we_n ?_ | refine we_3 ?_ | refine we_c ?_ | refine wo_none ?_ | refine wo_some ?_ | refine wl_cons ?_ | refine wl_nil ?_ | refine we_V ?_ | refine we_own ?_ | refine we_tup ?_ | refine wl_lst ?_ | refine wt_of ?_ | refine wt_or ?_ | refine wt_and ?_ | refine wt_not ?_ | refine we_and ?_ | refine we_or ?_ | refine we_not ?_ | refine we_if ?_ | refine we_isN ?_ | refine we_notN ?_ | refine we_chain ?_ | refine wt_yes ?_ | refine wi_L ?_ | refine wi_T ?_ | refine wi_S ?_ | refine wi_R1 ?_ | refine wi_R2 ?_ | refine wi_R3 ?_ | refine wi_E ?_ | refine we_call ?_ | refine we_callF ?_ | refine we_bm ?_ | refine wg_sb ?_ | refine we_m1 ?_ | refine we_rev ?_ | refine wo_add ?_ | refine wo_sub ?_ | refine wo_neg ?_ | refine wo_cmp ?_ | refine wo_eqI ?_ | refine wo_neI ?_ | refine wo_eqS ?_ | refine wo_neS ?_ | refine wo_eqB ?_ | refine wo_neB ?_ | refine wo_lenL ?_ | refine wo_lenT ?_ | refine wo_lenC ?_ | refine wo_max ?_ | refine wo_min ?_ | refine wo_slL ?_ | refine wo_listC ?_ | refine wo_listL ?_ | refine wo_listT ?_ | refine wo_tupT ?_ | refine wo_tupL ?_ | refine wo_intI ?_ | refine wo_intB ?_ | refine wo_strS ?_ | refine wo_inS ?_ | refine wo_ninS ?_) | ((with_reducible apply we_var); rfl) | ((with_reducible apply ws_frz); rfl) | ((with_reducible apply ws_app); rfl) | ((with_reducible apply ws_extend); rfl) | ((with_reducible apply ws_retA); rfl) | ((with_reducible apply ws_frz0); rfl) | ((with_reducible apply wo_isT); rfl; rfl) | (refine ⟨Nat.le_of_ble_eq_true rfl, ?_⟩) | (with_reducible refine ⟨_, rfl, ?_⟩) | (with_reducible refine wg_nm (Nat.le_of_ble_eq_true rfl) ?_) | (refine ⟨⟨Nat.le_of_ble_eq_true rfl, Nat.le_of_ble_eq_true rfl⟩, ?_⟩) | (with_reducible refine Or.inl ⟨_, rfl, ?_⟩) | (with_reducible refine Or.inr ⟨_, rfl, ?_⟩))
  refine wo_len (by omega) ?_
  repeat (first | with_reducible (first | refine ws_seq ?_ | refine nxt_nx ?_ | refine lp_nx ?_ | refine lp_ct ?_ | refine lp_bk ?_ | refine lp_rt ?_ | refine lp_rf ?_ | refine nxt_rt ?_ | refine nxt_rf ?_ | refine nxt_bk ?_ | refine nxt_ct ?_ | refine end_nx ?_ | refine end_rt ?_ | refine end_rf ?_ | refine ws_next ?_ | refine ws_brk ?_ | refine ws_cnt ?_ | refine ws_do ?_ | refine ws_ret ?_ | refine ws_retF ?_ | refine ws_retN ?_ | refine ws_set ?_ | refine ws_acc ?_ | refine ws_par ?_ | refine ws_asg ?_ | refine ws_for ?_ | refine ws_if ?_ | refine we_2 ?_ | refine we_1 ?_ | refine we_n ?_ | refine we_3 ?_ | refine we_c ?_ | refine wo_none ?_ | refine wo_some ?_ | refine wl_cons ?_ | refine wl_nil ?_ | refine we_V ?_ | refine we_own ?_ | refine we_tup ?_ | refine wl_lst ?_ | refine wt_of ?_ | refine wt_or ?_ | refine wt_and ?_ | refine wt_not ?_ | refine we_and ?_ | refine we_or ?_ | refine we_not ?_ | refine we_if ?_ | refine we_isN ?_ | refine we_notN ?_ | refine we_chain ?_ | refine wt_yes ?_ | refine wi_L ?_ | refine wi_T ?_ | refine wi_S ?_ | refine wi_R1 ?_ | refine wi_R2 ?_ | refine wi_R3 ?_ | refine wi_E ?_ | refine we_call ?_ | refine we_callF ?_ | refine we_bm ?_ | refine wg_sb ?_ | refine we_m1 ?_ | refine we_rev ?_ | refine wo_add ?_ | refine wo_sub ?_ | refine wo_neg ?_ | refine wo_cmp ?_ | refine wo_eqI ?_ | refine wo_neI ?_ | refine wo_eqS ?_ | refine wo_neS ?_ | refine wo_eqB ?_ | refine wo_neB ?_ | refine wo_lenL ?_ | refine wo_lenT ?_ | refine wo_lenC ?_ | refine wo_max ?_ | refine wo_min ?_ | refine wo_slL ?_ | refine wo_listC ?_ | refine wo_listL ?_ | refine wo_listT ?_ | refine wo_tupT ?_ | refine wo_tupL ?_ | refine wo_intI ?_ | refine wo_intB ?_ | refine wo_strS ?_ | refine wo_inS ?_ | refine wo_ninS ?_) | ((with_reducible apply we_var); rfl) | ((with_reducible apply ws_frz); rfl) | ((with_reducible apply ws_app); rfl) | ((with_reducible apply ws_extend); rfl) | ((with_reducible apply ws_retA); rfl) | ((with_reducible apply ws_frz0); rfl) | ((with_reducible apply wo_isT); rfl; rfl) | (refine ⟨Nat.le_of_ble_eq_true rfl, ?_⟩) | (with_reducible refine ⟨_, rfl, ?_⟩) | (with_reducible refine wg_nm (Nat.le_of_ble_eq_true rfl) ?_) | (refine ⟨⟨Nat.le_of_ble_eq_true rfl, Nat.le_of_ble_eq_true rfl⟩, ?_⟩) | (with_reducible refine Or.inl ⟨_, rfl, ?_⟩) | (with_reducible refine Or.inr ⟨_, rfl, ?_⟩))
  refine (draw_nat (n := t.length + 1) b (by omega) (by omega)).mono fun o S1 e => ?_
  obtain ⟨p, rfl, hp, b1⟩ := e
  repeat (first | with_reducible (first | refine ws_seq ?_ | refine nxt_nx ?_ | refine lp_nx ?_ | refine lp_ct ?_ | refine lp_bk ?_ | refine lp_rt ?_ | refine lp_rf ?_ | refine nxt_rt ?_ | refine nxt_rf ?_ | refine nxt_bk ?_ | refine nxt_ct ?_ | refine end_nx ?_ | refine end_rt ?_ | refine end_rf ?_ | refine ws_next ?_ | refine ws_brk ?_ | refine ws_cnt ?_ | refine ws_do ?_ | refine ws_ret ?_ | refine ws_retF ?_ | refine ws_retN ?_ | refine ws_set ?_ | refine ws_acc ?_ | refine ws_par ?_ | refine ws_asg ?_ | refine ws_for ?_ | refine ws_if ?_ | refine we_2 ?_ | refine we_1 ?_ | refine we_n ?_ | refine we_3 ?_ | refine we_c ?_ | refine wo_none ?_ | refine wo_some ?_ | refine wl_cons ?_ | refine wl_nil ?_ | refine we_V ?_ | refine we_own ?_ | refine we_tup ?_ | refine wl_lst ?_ | refine wt_of ?_ | refine wt_or ?_ | refine wt_and ?_ | refine wt_not ?_ | refine we_and ?_ | refine we_or ?_ | refine we_not ?_ | refine we_if ?_ | refine we_isN ?_ | refine we_notN ?_ | refine we_chain ?_ | refine wt_yes ?_ | refine wi_L ?_ | refine wi_T ?_ | refine wi_S ?_ | refine wi_R1 ?_ | refine wi_R2 ?_ | refine wi_R3 ?_ | refine wi_E ?_ | refine we_call ?_ | refine we_callF ?_ | refine we_bm ?_ | refine wg_sb ?_ | refine we_m1 ?_ | refine we_rev ?_ | refine wo_add ?_ | refine wo_sub ?_ | refine wo_neg ?_ | refine wo_cmp ?_ | refine wo_eqI ?_ | refine wo_neI ?_ | refine wo_eqS ?_ | refine wo_neS ?_ | refine wo_eqB ?_ | refine wo_neB ?_ | refine wo_lenL ?_ | refine wo_lenT ?_ | refine wo_lenC ?_ | refine wo_max ?_ | refine wo_min ?_ | refine wo_slL ?_ | refine wo_listC ?_ | refine wo_listL ?_ | refine wo_listT ?_ | refine wo_tupT ?_ | refine wo_tupL ?_ | refine wo_intI ?_ | refine wo_intB ?_ | refine wo_strS ?_ | refine wo_inS ?_ | refine wo_ninS ?_) | ((with_reducible apply we_var); rfl) | ((with_reducible apply ws_frz); rfl) | ((with_reducible apply ws_app); rfl) | ((with_reducible apply ws_extend); rfl) | ((with_reducible apply ws_retA); rfl) | ((with_reducible apply ws_frz0); rfl) | ((with_reducible apply wo_isT); rfl; rfl) | (refine ⟨Nat.le_of_ble_eq_true rfl, ?_⟩) | (with_reducible refine ⟨_, rfl, ?_⟩) | (with_reducible refine wg_nm (Nat.le_of_ble_eq_true rfl) ?_) | (refine ⟨⟨Nat.le_of_ble_eq_true rfl, Nat.le_of_ble_eq_true rfl⟩, ?_⟩) | (with_reducible refine Or.inl ⟨_, rfl, ?_⟩) | (with_reducible refine Or.inr ⟨_, rfl, ?_⟩))
  refine (draw_nat (n := 6) b1.box (by omega) (by omega)).mono fun o S2 e => ?_
  obtain ⟨w, rfl, hw, b2⟩ := e
  repeat (first | with_reducible (first | refine ws_seq ?_ | refine nxt_nx ?_ | refine lp_nx ?_ | refine lp_ct ?_ | refine lp_bk ?_ | refine lp_rt ?_ | refine lp_rf ?_ | refine nxt_rt ?_ | refine nxt_rf ?_ | refine nxt_bk ?_ | refine nxt_ct ?_ | refine end_nx ?_ | refine end_rt ?_ | refine end_rf ?_ | refine ws_next ?_ | refine ws_brk ?_ | refine ws_cnt ?_ | refine ws_do ?_ | refine ws_ret ?_ | refine ws_retF ?_ | refine ws_retN ?_ | refine ws_set ?_ | refine ws_acc ?_ | refine ws_par ?_ | refine ws_asg ?_ | refine ws_for ?_ | refine ws_if ?_ | refine we_2 ?_ | refine we_1 ?_ | refine we_n ?_ | refine we_3 ?_ | refine we_c ?_ | refine wo_none ?_ | refine wo_some ?_ | refine wl_cons ?_ | refine wl_nil ?_ | refine we_V ?_ | refine we_own ?_ | refine we_tup ?_ | refine wl_lst ?_ | refine wt_of ?_ | refine wt_or ?_ | refine wt_and ?_ | refine wt_not ?_ | refine we_and ?_ | refine we_or ?_ | refine we_not ?_ | refine we_if ?_ | refine we_isN ?_ | refine we_notN ?_ | refine we_chain ?_ | refine wt_yes ?_ | refine wi_L ?_ | refine wi_T ?_ | refine wi_S ?_ | refine wi_R1 ?_ | refine wi_R2 ?_ | refine wi_R3 ?_ | refine wi_E ?_ | refine we_call ?_ | refine we_callF ?_ | refine we_bm ?_ | refine wg_sb ?_ | refine we_m1 ?_ | refine we_rev ?_ | refine wo_add ?_ | refine wo_sub ?_ | refine wo_neg ?_ | refine wo_cmp ?_ | refine wo_eqI ?_ | refine wo_neI ?_ | refine wo_eqS ?_ | refine wo_neS ?_ | refine wo_eqB ?_ | refine wo_neB ?_ | refine wo_lenL ?_ | refine wo_lenT ?_ | refine wo_lenC ?_ | refine wo_max ?_ | refine wo_min ?_ | refine wo_slL ?_ | refine wo_listC ?_ | refine wo_listL ?_ | refine wo_listT ?_ | refine wo_tupT ?_ | refine wo_tupL ?_ | refine wo_intI ?_ | refine wo_intB ?_ | refine wo_strS ?_ | refine wo_inS ?_ | refine wo_ninS ?_) | ((with_reducible apply we_var); rfl) | ((with_reducible apply ws_frz); rfl) | ((with_reducible apply ws_app); rfl) | ((with_reducible apply ws_extend); rfl) | ((with_reducible apply ws_retA); rfl) | ((with_reducible apply ws_frz0); rfl) | ((with_reducible apply wo_isT); rfl; rfl) | (refine ⟨Nat.le_of_ble_eq_true rfl, ?_⟩) | (with_reducible refine ⟨_, rfl, ?_⟩) | (with_reducible refine wg_nm (Nat.le_of_ble_eq_true rfl) ?_) | (refine ⟨⟨Nat.le_of_ble_eq_true rfl, Nat.le_of_ble_eq_true rfl⟩, ?_⟩) | (with_reducible refine Or.inl ⟨_, rfl, ?_⟩) | (with_reducible refine Or.inr ⟨_, rfl, ?_⟩))
  refine (draw_sign (A := od) b2.box (by rfl) (by omega) (by omega)).mono fun o S3 e => ?_
  obtain ⟨r, c, rfl, hc, hcA, b3⟩ := e
  have B3 := (b1.trans b2).trans b3
  repeat (first | with_reducible (first | refine ws_seq ?_ | refine nxt_nx ?_ | refine lp_nx ?_ | refine lp_ct ?_ | refine lp_bk ?_ | refine lp_rt ?_ | refine lp_rf ?_ | refine nxt_rt ?_ | refine nxt_rf ?_ | refine nxt_bk ?_ | refine nxt_ct ?_ | refine end_nx ?_ | refine end_rt ?_ | refine end_rf ?_ | refine ws_next ?_ | refine ws_brk ?_ | refine ws_cnt ?_ | refine ws_do ?_ | refine ws_ret ?_ | refine ws_retF ?_ | refine ws_retN ?_ | refine ws_set ?_ | refine ws_acc ?_ | refine ws_par ?_ | refine ws_asg ?_ | refine ws_for ?_ | refine ws_if ?_ | refine we_2 ?_ | refine we_1 ?_ | refine we_n ?_ | refine we_3 ?_ | refine we_c ?_ | refine wo_none ?_ | refine wo_some ?_ | refine wl_cons ?_ | refine wl_nil ?_ | refine we_V ?_ | refine we_own ?_ | refine we_tup ?_ | refine wl_lst ?_ | refine wt_of ?_ | refine wt_or ?_ | refine wt_and ?_ | refine wt_not ?_ | refine we_and ?_ | refine we_or ?_ | refine we_not ?_ | refine we_if ?_ | refine we_isN ?_ | refine we_notN ?_ | refine we_chain ?_ | refine wt_yes ?_ | refine wi_L ?_ | refine wi_T ?_ | refine wi_S ?_ | refine wi_R1 ?_ | refine wi_R2 ?_ | refine wi_R3 ?_ | refine wi_E ?_ | refine we_call ?_ | refine we_callF ?_ | refine we_bm ?_ | refine wg_sb ?_ | refine we_m1 ?_ | refine we_rev ?_ | refine wo_add ?_ | refine wo_sub ?_ | refine wo_neg ?_ | refine wo_cmp ?_ | refine wo_eqI ?_ | refine wo_neI ?_ | refine wo_eqS ?_ | refine wo_neS ?_ | refine wo_eqB ?_ | refine wo_neB ?_ | refine wo_lenL ?_ | refine wo_lenT ?_ | refine wo_lenC ?_ | refine wo_max ?_ | refine wo_min ?_ | refine wo_slL ?_ | refine wo_listC ?_ | refine wo_listL ?_ | refine wo_listT ?_ | refine wo_tupT ?_ | refine wo_tupL ?_ | refine wo_intI ?_ | refine wo_intB ?_ | refine wo_strS ?_ | refine wo_inS ?_ | refine wo_ninS ?_) | ((with_reducible apply we_var); rfl) | ((with_reducible apply ws_frz); rfl) | ((with_reducible apply ws_app); rfl) | ((with_reducible apply ws_extend); rfl) | ((with_reducible apply ws_retA); rfl) | ((with_reducible apply ws_frz0); rfl) | ((with_reducible apply wo_isT); rfl; rfl) | (refine ⟨Nat.le_of_ble_eq_true rfl, ?_⟩) | (with_reducible refine ⟨_, rfl, ?_⟩) | (with_reducible refine wg_nm (Nat.le_of_ble_eq_true rfl) ?_) | (refine ⟨⟨Nat.le_of_ble_eq_true rfl, Nat.le_of_ble_eq_true rfl⟩, ?_⟩) | (with_reducible refine Or.inl ⟨_, rfl, ?_⟩) | (with_reducible refine Or.inr ⟨_, rfl, ?_⟩))
  refine wo_ixS (by decide) (by omega) (by rw [Int.toNat_natCast]; exact hc) ?_
  refine ⟨Nat.le_of_ble_eq_true rfl, ?_⟩
  refine nxt_nx (ws_seq (WS.mono (Q := fun f ρ S4 => f = .nx ∧ S4 = S3 ∧ ∃ s : List Nat, s.length ≤ 1 ∧ okS s ∧ ρ = [.val (.ref l), .val (.str t), .val (.str od), .val (.int p), .val (.int w), .val (.str s), .no]) ?_ ?_))
  · repeat (first | with_reducible (first | refine ws_seq ?_ | refine nxt_nx ?_ | refine lp_nx ?_ | refine lp_ct ?_ | refine lp_bk ?_ | refine lp_rt ?_ | refine lp_rf ?_ | refine nxt_rt ?_ | refine nxt_rf ?_ | refine nxt_bk ?_ | refine nxt_ct ?_ | refine end_nx ?_ | refine end_rt ?_ | refine end_rf ?_ | refine ws_next ?_ | refine ws_brk ?_ | refine ws_cnt ?_ | refine ws_do ?_ | refine ws_ret ?_ | refine ws_retF ?_ | refine ws_retN ?_ | refine ws_set ?_ | refine ws_acc ?_ | refine ws_par ?_ | refine ws_asg ?_ | refine ws_for ?_ | refine ws_if ?_ | refine we_2 ?_ | refine we_1 ?_ | refine we_n ?_ | refine we_3 ?_ | refine we_c ?_ | refine wo_none ?_ | refine wo_some ?_ | refine wl_cons ?_ | refine wl_nil ?_ | refine we_V ?_ | refine we_own ?_ | refine we_tup ?_ | refine wl_lst ?_ | refine wt_of ?_ | refine wt_or ?_ | refine wt_and ?_ | refine wt_not ?_ | refine we_and ?_ | refine we_or ?_ | refine we_not ?_ | refine we_if ?_ | refine we_isN ?_ | refine we_notN ?_ | refine we_chain ?_ | refine wt_yes ?_ | refine wi_L ?_ | refine wi_T ?_ | refine wi_S ?_ | refine wi_R1 ?_ | refine wi_R2 ?_ | refine wi_R3 ?_ | refine wi_E ?_ | refine we_call ?_ | refine we_callF ?_ | refine we_bm ?_ | refine wg_sb ?_ | refine we_m1 ?_ | refine we_rev ?_ | refine wo_add ?_ | refine wo_sub ?_ | refine wo_neg ?_ | refine wo_cmp ?_ | refine wo_eqI ?_ | refine wo_neI ?_ | refine wo_eqS ?_ | refine wo_neS ?_ | refine wo_eqB ?_ | refine wo_neB ?_ | refine wo_lenL ?_ | refine wo_lenT ?_ | refine wo_lenC ?_ | refine wo_max ?_ | refine wo_min ?_ | refine wo_slL ?_ | refine wo_listC ?_ | refine wo_listL ?_ | refine wo_listT ?_ | refine wo_tupT ?_ | refine wo_tupL ?_ | refine wo_intI ?_ | refine wo_intB ?_ | refine wo_strS ?_ | refine wo_inS ?_ | refine wo_ninS ?_) | ((with_reducible apply we_var); rfl) | ((with_reducible apply ws_frz); rfl) | ((with_reducible apply ws_app); rfl) | ((with_reducible apply ws_extend); rfl) | ((with_reducible apply ws_retA); rfl) | ((with_reducible apply ws_frz0); rfl) | ((with_reducible apply wo_isT); rfl; rfl) | (refine ⟨Nat.le_of_ble_eq_true rfl, ?_⟩) | (with_reducible refine ⟨_, rfl, ?_⟩) | (with_reducible refine wg_nm (Nat.le_of_ble_eq_true rfl) ?_) | (refine ⟨⟨Nat.le_of_ble_eq_true rfl, Nat.le_of_ble_eq_true rfl⟩, ?_⟩) | (with_reducible refine Or.inl ⟨_, rfl, ?_⟩) | (with_reducible refine Or.inr ⟨_, rfl, ?_⟩))
    refine ⟨fun _ => ?_, fun _ => ?_⟩
    · repeat (first | with_reducible (first | refine ws_seq ?_ | refine nxt_nx ?_ | refine lp_nx ?_ | refine lp_ct ?_ | refine lp_bk ?_ | refine lp_rt ?_ | refine lp_rf ?_ | refine nxt_rt ?_ | refine nxt_rf ?_ | refine nxt_bk ?_ | refine nxt_ct ?_ | refine end_nx ?_ | refine end_rt ?_ | refine end_rf ?_ | refine ws_next ?_ | refine ws_brk ?_ | refine ws_cnt ?_ | refine ws_do ?_ | refine ws_ret ?_ | refine ws_retF ?_ | refine ws_retN ?_ | refine ws_set ?_ | refine ws_acc ?_ | refine ws_par ?_ | refine ws_asg ?_ | refine ws_for ?_ | refine ws_if ?_ | refine we_2 ?_ | refine we_1 ?_ | refine we_n ?_ | refine we_3 ?_ | refine we_c ?_ | refine wo_none ?_ | refine wo_some ?_ | refine wl_cons ?_ | refine wl_nil ?_ | refine we_V ?_ | refine we_own ?_ | refine we_tup ?_ | refine wl_lst ?_ | refine wt_of ?_ | refine wt_or ?_ | refine wt_and ?_ | refine wt_not ?_ | refine we_and ?_ | refine we_or ?_ | refine we_not ?_ | refine we_if ?_ | refine we_isN ?_ | refine we_notN ?_ | refine we_chain ?_ | refine wt_yes ?_ | refine wi_L ?_ | refine wi_T ?_ | refine wi_S ?_ | refine wi_R1 ?_ | refine wi_R2 ?_ | refine wi_R3 ?_ | refine wi_E ?_ | refine we_call ?_ | refine we_callF ?_ | refine we_bm ?_ | refine wg_sb ?_ | refine we_m1 ?_ | refine we_rev ?_ | refine wo_add ?_ | refine wo_sub ?_ | refine wo_neg ?_ | refine wo_cmp ?_ | refine wo_eqI ?_ | refine wo_neI ?_ | refine wo_eqS ?_ | refine wo_neS ?_ | refine wo_eqB ?_ | refine wo_neB ?_ | refine wo_lenL ?_ | refine wo_lenT ?_ | refine wo_lenC ?_ | refine wo_max ?_ | refine wo_min ?_ | refine wo_slL ?_ | refine wo_listC ?_ | refine wo_listL ?_ | refine wo_listT ?_ | refine wo_tupT ?_ | refine wo_tupL ?_ | refine wo_intI ?_ | refine wo_intB ?_ | refine wo_strS ?_ | refine wo_inS ?_ | refine wo_ninS ?_) | ((with_reducible apply we_var); rfl) | ((with_reducible apply ws_frz); rfl) | ((with_reducible apply ws_app); rfl) | ((with_reducible apply ws_extend); rfl) | ((with_reducible apply ws_retA); rfl) | ((with_reducible apply ws_frz0); rfl) | ((with_reducible apply wo_isT); rfl; rfl) | (refine ⟨Nat.le_of_ble_eq_true rfl, ?_⟩) | (with_reducible refine ⟨_, rfl, ?_⟩) | (with_reducible refine wg_nm (Nat.le_of_ble_eq_true rfl) ?_) | (refine ⟨⟨Nat.le_of_ble_eq_true rfl, Nat.le_of_ble_eq_true rfl⟩, ?_⟩) | (with_reducible refine Or.inl ⟨_, rfl, ?_⟩) | (with_reducible refine Or.inr ⟨_, rfl, ?_⟩))
      exact ⟨rfl, rfl, [], by simp, fun x hx => (nomatch hx), rfl⟩
    · repeat (first | with_reducible (first | refine ws_seq ?_ | refine nxt_nx ?_ | refine lp_nx ?_ | refine lp_ct ?_ | refine lp_bk ?_ | refine lp_rt ?_ | refine lp_rf ?_ | refine nxt_rt ?_ | refine nxt_rf ?_ | refine nxt_bk ?_ | refine nxt_ct ?_ | refine end_nx ?_ | refine end_rt ?_ | refine end_rf ?_ | refine ws_next ?_ | refine ws_brk ?_ | refine ws_cnt ?_ | refine ws_do ?_ | refine ws_ret ?_ | refine ws_retF ?_ | refine ws_retN ?_ | refine ws_set ?_ | refine ws_acc ?_ | refine ws_par ?_ | refine ws_asg ?_ | refine ws_for ?_ | refine ws_if ?_ | refine we_2 ?_ | refine we_1 ?_ | refine we_n ?_ | refine we_3 ?_ | refine we_c ?_ | refine wo_none ?_ | refine wo_some ?_ | refine wl_cons ?_ | refine wl_nil ?_ | refine we_V ?_ | refine we_own ?_ | refine we_tup ?_ | refine wl_lst ?_ | refine wt_of ?_ | refine wt_or ?_ | refine wt_and ?_ | refine wt_not ?_ | refine we_and ?_ | refine we_or ?_ | refine we_not ?_ | refine we_if ?_ | refine we_isN ?_ | refine we_notN ?_ | refine we_chain ?_ | refine wt_yes ?_ | refine wi_L ?_ | refine wi_T ?_ | refine wi_S ?_ | refine wi_R1 ?_ | refine wi_R2 ?_ | refine wi_R3 ?_ | refine wi_E ?_ | refine we_call ?_ | refine we_callF ?_ | refine we_bm ?_ | refine wg_sb ?_ | refine we_m1 ?_ | refine we_rev ?_ | refine wo_add ?_ | refine wo_sub ?_ | refine wo_neg ?_ | refine wo_cmp ?_ | refine wo_eqI ?_ | refine wo_neI ?_ | refine wo_eqS ?_ | refine wo_neS ?_ | refine wo_eqB ?_ | refine wo_neB ?_ | refine wo_lenL ?_ | refine wo_lenT ?_ | refine wo_lenC ?_ | refine wo_max ?_ | refine wo_min ?_ | refine wo_slL ?_ | refine wo_listC ?_ | refine wo_listL ?_ | refine wo_listT ?_ | refine wo_tupT ?_ | refine wo_tupL ?_ | refine wo_intI ?_ | refine wo_intB ?_ | refine wo_strS ?_ | refine wo_inS ?_ | refine wo_ninS ?_) | ((with_reducible apply we_var); rfl) | ((with_reducible apply ws_frz); rfl) | ((with_reducible apply ws_app); rfl) | ((with_reducible apply ws_extend); rfl) | ((with_reducible apply ws_retA); rfl) | ((with_reducible apply ws_frz0); rfl) | ((with_reducible apply wo_isT); rfl; rfl) | (refine ⟨Nat.le_of_ble_eq_true rfl, ?_⟩) | (with_reducible refine ⟨_, rfl, ?_⟩) | (with_reducible refine wg_nm (Nat.le_of_ble_eq_true rfl) ?_) | (refine ⟨⟨Nat.le_of_ble_eq_true rfl, Nat.le_of_ble_eq_true rfl⟩, ?_⟩) | (with_reducible refine Or.inl ⟨_, rfl, ?_⟩) | (with_reducible refine Or.inr ⟨_, rfl, ?_⟩))
      exact ⟨rfl, rfl, [c], by simp, fun x hx => by rw [List.mem_singleton.mp hx]; exact od_ok c hcA, rfl⟩
  · rintro f ρ S4 ⟨rfl, rfl, s, hs, hs2, rfl⟩
    repeat (first | with_reducible (first | refine ws_seq ?_ | refine nxt_nx ?_ | refine lp_nx ?_ | refine lp_ct ?_ | refine lp_bk ?_ | refine lp_rt ?_ | refine lp_rf ?_ | refine nxt_rt ?_ | refine nxt_rf ?_ | refine nxt_bk ?_ | refine nxt_ct ?_ | refine end_nx ?_ | refine end_rt ?_ | refine end_rf ?_ | refine ws_next ?_ | refine ws_brk ?_ | refine ws_cnt ?_ | refine ws_do ?_ | refine ws_ret ?_ | refine ws_retF ?_ | refine ws_retN ?_ | refine ws_set ?_ | refine ws_acc ?_ | refine ws_par ?_ | refine ws_asg ?_ | refine ws_for ?_ | refine ws_if ?_ | refine we_2 ?_ | refine we_1 ?_ | refine we_n ?_ | refine we_3 ?_ | refine we_c ?_ | refine wo_none ?_ | refine wo_some ?_ | refine wl_cons ?_ | refine wl_nil ?_ | refine we_V ?_ | refine we_own ?_ | refine we_tup ?_ | refine wl_lst ?_ | refine wt_of ?_ | refine wt_or ?_ | refine wt_and ?_ | refine wt_not ?_ | refine we_and ?_ | refine we_or ?_ | refine we_not ?_ | refine we_if ?_ | refine we_isN ?_ | refine we_notN ?_ | refine we_chain ?_ | refine wt_yes ?_ | refine wi_L ?_ | refine wi_T ?_ | refine wi_S ?_ | refine wi_R1 ?_ | refine wi_R2 ?_ | refine wi_R3 ?_ | refine wi_E ?_ | refine we_call ?_ | refine we_callF ?_ | refine we_bm ?_ | refine wg_sb ?_ | refine we_m1 ?_ | refine we_rev ?_ | refine wo_add ?_ | refine wo_sub ?_ | refine wo_neg ?_ | refine wo_cmp ?_ | refine wo_eqI ?_ | refine wo_neI ?_ | refine wo_eqS ?_ | refine wo_neS ?_ | refine wo_eqB ?_ | refine wo_neB ?_ | refine wo_lenL ?_ | refine wo_lenT ?_ | refine wo_lenC ?_ | refine wo_max ?_ | refine wo_min ?_ | refine wo_slL ?_ | refine wo_listC ?_ | refine wo_listL ?_ | refine wo_listT ?_ | refine wo_tupT ?_ | refine wo_tupL ?_ | refine wo_intI ?_ | refine wo_intB ?_ | refine wo_strS ?_ | refine wo_inS ?_ | refine wo_ninS ?_) | ((with_reducible apply we_var); rfl) | ((with_reducible apply ws_frz); rfl) | ((with_reducible apply ws_app); rfl) | ((with_reducible apply ws_extend); rfl) | ((with_reducible apply ws_retA); rfl) | ((with_reducible apply ws_frz0); rfl) | ((with_reducible apply wo_isT); rfl; rfl) | (refine ⟨Nat.le_of_ble_eq_true rfl, ?_⟩) | (with_reducible refine ⟨_, rfl, ?_⟩) | (with_reducible refine wg_nm (Nat.le_of_ble_eq_true rfl) ?_) | (refine ⟨⟨Nat.le_of_ble_eq_true rfl, Nat.le_of_ble_eq_true rfl⟩, ?_⟩) | (with_reducible refine Or.inl ⟨_, rfl, ?_⟩) | (with_reducible refine Or.inr ⟨_, rfl, ?_⟩))
    refine ⟨fun _ => ?_, fun h3 => ?_⟩
    · repeat (first | with_reducible (first | refine ws_seq ?_ | refine nxt_nx ?_ | refine lp_nx ?_ | refine lp_ct ?_ | refine lp_bk ?_ | refine lp_rt ?_ | refine lp_rf ?_ | refine nxt_rt ?_ | refine nxt_rf ?_ | refine nxt_bk ?_ | refine nxt_ct ?_ | refine end_nx ?_ | refine end_rt ?_ | refine end_rf ?_ | refine ws_next ?_ | refine ws_brk ?_ | refine ws_cnt ?_ | refine ws_do ?_ | refine ws_ret ?_ | refine ws_retF ?_ | refine ws_retN ?_ | refine ws_set ?_ | refine ws_acc ?_ | refine ws_par ?_ | refine ws_asg ?_ | refine ws_for ?_ | refine ws_if ?_ | refine we_2 ?_ | refine we_1 ?_ | refine we_n ?_ | refine we_3 ?_ | refine we_c ?_ | refine wo_none ?_ | refine wo_some ?_ | refine wl_cons ?_ | refine wl_nil ?_ | refine we_V ?_ | refine we_own ?_ | refine we_tup ?_ | refine wl_lst ?_ | refine wt_of ?_ | refine wt_or ?_ | refine wt_and ?_ | refine wt_not ?_ | refine we_and ?_ | refine we_or ?_ | refine we_not ?_ | refine we_if ?_ | refine we_isN ?_ | refine we_notN ?_ | refine we_chain ?_ | refine wt_yes ?_ | refine wi_L ?_ | refine wi_T ?_ | refine wi_S ?_ | refine wi_R1 ?_ | refine wi_R2 ?_ | refine wi_R3 ?_ | refine wi_E ?_ | refine we_call ?_ | refine we_callF ?_ | refine we_bm ?_ | refine wg_sb ?_ | refine we_m1 ?_ | refine we_rev ?_ | refine wo_add ?_ | refine wo_sub ?_ | refine wo_neg ?_ | refine wo_cmp ?_ | refine wo_eqI ?_ | refine wo_neI ?_ | refine wo_eqS ?_ | refine wo_neS ?_ | refine wo_eqB ?_ | refine wo_neB ?_ | refine wo_lenL ?_ | refine wo_lenT ?_ | refine wo_lenC ?_ | refine wo_max ?_ | refine wo_min ?_ | refine wo_slL ?_ | refine wo_listC ?_ | refine wo_listL ?_ | refine wo_listT ?_ | refine wo_tupT ?_ | refine wo_tupL ?_ | refine wo_intI ?_ | refine wo_intB ?_ | refine wo_strS ?_ | refine wo_inS ?_ | refine wo_ninS ?_) | ((with_reducible apply we_var); rfl) | ((with_reducible apply ws_frz); rfl) | ((with_reducible apply ws_app); rfl) | ((with_reducible apply ws_extend); rfl) | ((with_reducible apply ws_retA); rfl) | ((with_reducible apply ws_frz0); rfl) | ((with_reducible apply wo_isT); rfl; rfl) | (refine ⟨Nat.le_of_ble_eq_true rfl, ?_⟩) | (with_reducible refine ⟨_, rfl, ?_⟩) | (with_reducible refine wg_nm (Nat.le_of_ble_eq_true rfl) ?_) | (refine ⟨⟨Nat.le_of_ble_eq_true rfl, Nat.le_of_ble_eq_true rfl⟩, ?_⟩) | (with_reducible refine Or.inl ⟨_, rfl, ?_⟩) | (with_reducible refine Or.inr ⟨_, rfl, ?_⟩))
      refine wo_slS (by omega) ?_
      rw [cut_lo]
      repeat (first | with_reducible (first | refine ws_seq ?_ | refine nxt_nx ?_ | refine lp_nx ?_ | refine lp_ct ?_ | refine lp_bk ?_ | refine lp_rt ?_ | refine lp_rf ?_ | refine nxt_rt ?_ | refine nxt_rf ?_ | refine nxt_bk ?_ | refine nxt_ct ?_ | refine end_nx ?_ | refine end_rt ?_ | refine end_rf ?_ | refine ws_next ?_ | refine ws_brk ?_ | refine ws_cnt ?_ | refine ws_do ?_ | refine ws_ret ?_ | refine ws_retF ?_ | refine ws_retN ?_ | refine ws_set ?_ | refine ws_acc ?_ | refine ws_par ?_ | refine ws_asg ?_ | refine ws_for ?_ | refine ws_if ?_ | refine we_2 ?_ | refine we_1 ?_ | refine we_n ?_ | refine we_3 ?_ | refine we_c ?_ | refine wo_none ?_ | refine wo_some ?_ | refine wl_cons ?_ | refine wl_nil ?_ | refine we_V ?_ | refine we_own ?_ | refine we_tup ?_ | refine wl_lst ?_ | refine wt_of ?_ | refine wt_or ?_ | refine wt_and ?_ | refine wt_not ?_ | refine we_and ?_ | refine we_or ?_ | refine we_not ?_ | refine we_if ?_ | refine we_isN ?_ | refine we_notN ?_ | refine we_chain ?_ | refine wt_yes ?_ | refine wi_L ?_ | refine wi_T ?_ | refine wi_S ?_ | refine wi_R1 ?_ | refine wi_R2 ?_ | refine wi_R3 ?_ | refine wi_E ?_ | refine we_call ?_ | refine we_callF ?_ | refine we_bm ?_ | refine wg_sb ?_ | refine we_m1 ?_ | refine we_rev ?_ | refine wo_add ?_ | refine wo_sub ?_ | refine wo_neg ?_ | refine wo_cmp ?_ | refine wo_eqI ?_ | refine wo_neI ?_ | refine wo_eqS ?_ | refine wo_neS ?_ | refine wo_eqB ?_ | refine wo_neB ?_ | refine wo_lenL ?_ | refine wo_lenT ?_ | refine wo_lenC ?_ | refine wo_max ?_ | refine wo_min ?_ | refine wo_slL ?_ | refine wo_listC ?_ | refine wo_listL ?_ | refine wo_listT ?_ | refine wo_tupT ?_ | refine wo_tupL ?_ | refine wo_intI ?_ | refine wo_intB ?_ | refine wo_strS ?_ | refine wo_inS ?_ | refine wo_ninS ?_) | ((with_reducible apply we_var); rfl) | ((with_reducible apply ws_frz); rfl) | ((with_reducible apply ws_app); rfl) | ((with_reducible apply ws_extend); rfl) | ((with_reducible apply ws_retA); rfl) | ((with_reducible apply ws_frz0); rfl) | ((with_reducible apply wo_isT); rfl; rfl) | (refine ⟨Nat.le_of_ble_eq_true rfl, ?_⟩) | (with_reducible refine ⟨_, rfl, ?_⟩) | (with_reducible refine wg_nm (Nat.le_of_ble_eq_true rfl) ?_) | (refine ⟨⟨Nat.le_of_ble_eq_true rfl, Nat.le_of_ble_eq_true rfl⟩, ?_⟩) | (with_reducible refine Or.inl ⟨_, rfl, ?_⟩) | (with_reducible refine Or.inr ⟨_, rfl, ?_⟩))
      refine wo_addS (by simp; omega) ?_
      repeat (first | with_reducible (first | refine ws_seq ?_ | refine nxt_nx ?_ | refine lp_nx ?_ | refine lp_ct ?_ | refine lp_bk ?_ | refine lp_rt ?_ | refine lp_rf ?_ | refine nxt_rt ?_ | refine nxt_rf ?_ | refine nxt_bk ?_ | refine nxt_ct ?_ | refine end_nx ?_ | refine end_rt ?_ | refine end_rf ?_ | refine ws_next ?_ | refine ws_brk ?_ | refine ws_cnt ?_ | refine ws_do ?_ | refine ws_ret ?_ | refine ws_retF ?_ | refine ws_retN ?_ | refine ws_set ?_ | refine ws_acc ?_ | refine ws_par ?_ | refine ws_asg ?_ | refine ws_for ?_ | refine ws_if ?_ | refine we_2 ?_ | refine we_1 ?_ | refine we_n ?_ | refine we_3 ?_ | refine we_c ?_ | refine wo_none ?_ | refine wo_some ?_ | refine wl_cons ?_ | refine wl_nil ?_ | refine we_V ?_ | refine we_own ?_ | refine we_tup ?_ | refine wl_lst ?_ | refine wt_of ?_ | refine wt_or ?_ | refine wt_and ?_ | refine wt_not ?_ | refine we_and ?_ | refine we_or ?_ | refine we_not ?_ | refine we_if ?_ | refine we_isN ?_ | refine we_notN ?_ | refine we_chain ?_ | refine wt_yes ?_ | refine wi_L ?_ | refine wi_T ?_ | refine wi_S ?_ | refine wi_R1 ?_ | refine wi_R2 ?_ | refine wi_R3 ?_ | refine wi_E ?_ | refine we_call ?_ | refine we_callF ?_ | refine we_bm ?_ | refine wg_sb ?_ | refine we_m1 ?_ | refine we_rev ?_ | refine wo_add ?_ | refine wo_sub ?_ | refine wo_neg ?_ | refine wo_cmp ?_ | refine wo_eqI ?_ | refine wo_neI ?_ | refine wo_eqS ?_ | refine wo_neS ?_ | refine wo_eqB ?_ | refine wo_neB ?_ | refine wo_lenL ?_ | refine wo_lenT ?_ | refine wo_lenC ?_ | refine wo_max ?_ | refine wo_min ?_ | refine wo_slL ?_ | refine wo_listC ?_ | refine wo_listL ?_ | refine wo_listT ?_ | refine wo_tupT ?_ | refine wo_tupL ?_ | refine wo_intI ?_ | refine wo_intB ?_ | refine wo_strS ?_ | refine wo_inS ?_ | refine wo_ninS ?_) | ((with_reducible apply we_var); rfl) | ((with_reducible apply ws_frz); rfl) | ((with_reducible apply ws_app); rfl) | ((with_reducible apply ws_extend); rfl) | ((with_reducible apply ws_retA); rfl) | ((with_reducible apply ws_frz0); rfl) | ((with_reducible apply wo_isT); rfl; rfl) | (refine ⟨Nat.le_of_ble_eq_true rfl, ?_⟩) | (with_reducible refine ⟨_, rfl, ?_⟩) | (with_reducible refine wg_nm (Nat.le_of_ble_eq_true rfl) ?_) | (refine ⟨⟨Nat.le_of_ble_eq_true rfl, Nat.le_of_ble_eq_true rfl⟩, ?_⟩) | (with_reducible refine Or.inl ⟨_, rfl, ?_⟩) | (with_reducible refine Or.inr ⟨_, rfl, ?_⟩))
      have e : (p : Int) + (if decide ((0 : Int) < (w : Int)) then 1 else 0) = ((p + (if decide ((0 : Int) < (w : Int)) then 1 else 0) : Nat) : Int) := by
        split <;> omega
      rw [e]
      refine wo_slS (by omega) ?_
      rw [cut_hi]
      refine wo_addS (by simp; omega) ?_
      repeat (first | with_reducible (first | refine ws_seq ?_ | refine nxt_nx ?_ | refine lp_nx ?_ | refine lp_ct ?_ | refine lp_bk ?_ | refine lp_rt ?_ | refine lp_rf ?_ | refine nxt_rt ?_ | refine nxt_rf ?_ | refine nxt_bk ?_ | refine nxt_ct ?_ | refine end_nx ?_ | refine end_rt ?_ | refine end_rf ?_ | refine ws_next ?_ | refine ws_brk ?_ | refine ws_cnt ?_ | refine ws_do ?_ | refine ws_ret ?_ | refine ws_retF ?_ | refine ws_retN ?_ | refine ws_set ?_ | refine ws_acc ?_ | refine ws_par ?_ | refine ws_asg ?_ | refine ws_for ?_ | refine ws_if ?_ | refine we_2 ?_ | refine we_1 ?_ | refine we_n ?_ | refine we_3 ?_ | refine we_c ?_ | refine wo_none ?_ | refine wo_some ?_ | refine wl_cons ?_ | refine wl_nil ?_ | refine we_V ?_ | refine we_own ?_ | refine we_tup ?_ | refine wl_lst ?_ | refine wt_of ?_ | refine wt_or ?_ | refine wt_and ?_ | refine wt_not ?_ | refine we_and ?_ | refine we_or ?_ | refine we_not ?_ | refine we_if ?_ | refine we_isN ?_ | refine we_notN ?_ | refine we_chain ?_ | refine wt_yes ?_ | refine wi_L ?_ | refine wi_T ?_ | refine wi_S ?_ | refine wi_R1 ?_ | refine wi_R2 ?_ | refine wi_R3 ?_ | refine wi_E ?_ | refine we_call ?_ | refine we_callF ?_ | refine we_bm ?_ | refine wg_sb ?_ | refine we_m1 ?_ | refine we_rev ?_ | refine wo_add ?_ | refine wo_sub ?_ | refine wo_neg ?_ | refine wo_cmp ?_ | refine wo_eqI ?_ | refine wo_neI ?_ | refine wo_eqS ?_ | refine wo_neS ?_ | refine wo_eqB ?_ | refine wo_neB ?_ | refine wo_lenL ?_ | refine wo_lenT ?_ | refine wo_lenC ?_ | refine wo_max ?_ | refine wo_min ?_ | refine wo_slL ?_ | refine wo_listC ?_ | refine wo_listL ?_ | refine wo_listT ?_ | refine wo_tupT ?_ | refine wo_tupL ?_ | refine wo_intI ?_ | refine wo_intB ?_ | refine wo_strS ?_ | refine wo_inS ?_ | refine wo_ninS ?_) | ((with_reducible apply we_var); rfl) | ((with_reducible apply ws_frz); rfl) | ((with_reducible apply ws_app); rfl) | ((with_reducible apply ws_extend); rfl) | ((with_reducible apply ws_retA); rfl) | ((with_reducible apply ws_frz0); rfl) | ((with_reducible apply wo_isT); rfl; rfl) | (refine ⟨Nat.le_of_ble_eq_true rfl, ?_⟩) | (with_reducible refine ⟨_, rfl, ?_⟩) | (with_reducible refine wg_nm (Nat.le_of_ble_eq_true rfl) ?_) | (refine ⟨⟨Nat.le_of_ble_eq_true rfl, Nat.le_of_ble_eq_true rfl⟩, ?_⟩) | (with_reducible refine Or.inl ⟨_, rfl, ?_⟩) | (with_reducible refine Or.inr ⟨_, rfl, ?_⟩))
      exact ⟨by simp; omega, okS_app (okS_app (okS_take ht) hs2) (okS_drop ht), B3⟩
    repeat (first | with_reducible (first | refine ws_seq ?_ | refine nxt_nx ?_ | refine lp_nx ?_ | refine lp_ct ?_ | refine lp_bk ?_ | refine lp_rt ?_ | refine lp_rf ?_ | refine nxt_rt ?_ | refine nxt_rf ?_ | refine nxt_bk ?_ | refine nxt_ct ?_ | refine end_nx ?_ | refine end_rt ?_ | refine end_rf ?_ | refine ws_next ?_ | refine ws_brk ?_ | refine ws_cnt ?_ | refine ws_do ?_ | refine ws_ret ?_ | refine ws_retF ?_ | refine ws_retN ?_ | refine ws_set ?_ | refine ws_acc ?_ | refine ws_par ?_ | refine ws_asg ?_ | refine ws_for ?_ | refine ws_if ?_ | refine we_2 ?_ | refine we_1 ?_ | refine we_n ?_ | refine we_3 ?_ | refine we_c ?_ | refine wo_none ?_ | refine wo_some ?_ | refine wl_cons ?_ | refine wl_nil ?_ | refine we_V ?_ | refine we_own ?_ | refine we_tup ?_ | refine wl_lst ?_ | refine wt_of ?_ | refine wt_or ?_ | refine wt_and ?_ | refine wt_not ?_ | refine we_and ?_ | refine we_or ?_ | refine we_not ?_ | refine we_if ?_ | refine we_isN ?_ | refine we_notN ?_ | refine we_chain ?_ | refine wt_yes ?_ | refine wi_L ?_ | refine wi_T ?_ | refine wi_S ?_ | refine wi_R1 ?_ | refine wi_R2 ?_ | refine wi_R3 ?_ | refine wi_E ?_ | refine we_call ?_ | refine we_callF ?_ | refine we_bm ?_ | refine wg_sb ?_ | refine we_m1 ?_ | refine we_rev ?_ | refine wo_add ?_ | refine wo_sub ?_ | refine wo_neg ?_ | refine wo_cmp ?_ | refine wo_eqI ?_ | refine wo_neI ?_ | refine wo_eqS ?_ | refine wo_neS ?_ | refine wo_eqB ?_ | refine wo_neB ?_ | refine wo_lenL ?_ | refine wo_lenT ?_ | refine wo_lenC ?_ | refine wo_max ?_ | refine wo_min ?_ | refine wo_slL ?_ | refine wo_listC ?_ | refine wo_listL ?_ | refine wo_listT ?_ | refine wo_tupT ?_ | refine wo_tupL ?_ | refine wo_intI ?_ | refine wo_intB ?_ | refine wo_strS ?_ | refine wo_inS ?_ | refine wo_ninS ?_) | ((with_reducible apply we_var); rfl) | ((with_reducible apply ws_frz); rfl) | ((with_reducible apply ws_app); rfl) | ((with_reducible apply ws_extend); rfl) | ((with_reducible apply ws_retA); rfl) | ((with_reducible apply ws_frz0); rfl) | ((with_reducible apply wo_isT); rfl; rfl) | (refine ⟨Nat.le_of_ble_eq_true rfl, ?_⟩) | (with_reducible refine ⟨_, rfl, ?_⟩) | (with_reducible refine wg_nm (Nat.le_of_ble_eq_true rfl) ?_) | (refine ⟨⟨Nat.le_of_ble_eq_true rfl, Nat.le_of_ble_eq_true rfl⟩, ?_⟩) | (with_reducible refine Or.inl ⟨_, rfl, ?_⟩) | (with_reducible refine Or.inr ⟨_, rfl, ?_⟩))
    refine (draw_nat (n := 9) b3.box (by omega) (by omega)).mono fun o S5 e => ?_
    obtain ⟨x, rfl, hx, b5⟩ := e
    have B5 := B3.trans b5
    repeat (first | with_reducible (first | refine ws_seq ?_ | refine nxt_nx ?_ | refine lp_nx ?_ | refine lp_ct ?_ | refine lp_bk ?_ | refine lp_rt ?_ | refine lp_rf ?_ | refine nxt_rt ?_ | refine nxt_rf ?_ | refine nxt_bk ?_ | refine nxt_ct ?_ | refine end_nx ?_ | refine end_rt ?_ | refine end_rf ?_ | refine ws_next ?_ | refine ws_brk ?_ | refine ws_cnt ?_ | refine ws_do ?_ | refine ws_ret ?_ | refine ws_retF ?_ | refine ws_retN ?_ | refine ws_set ?_ | refine ws_acc ?_ | refine ws_par ?_ | refine ws_asg ?_ | refine ws_for ?_ | refine ws_if ?_ | refine we_2 ?_ | refine we_1 ?_ | refine we_n ?_ | refine we_3 ?_ | refine we_c ?_ | refine wo_none ?_ | refine wo_some ?_ | refine wl_cons ?_ | refine wl_nil ?_ | refine we_V ?_ | refine we_own ?_ | refine we_tup ?_ | refine wl_lst ?_ | refine wt_of ?_ | refine wt_or ?_ | refine wt_and ?_ | refine wt_not ?_ | refine we_and ?_ | refine we_or ?_ | refine we_not ?_ | refine we_if ?_ | refine we_isN ?_ | refine we_notN ?_ | refine we_chain ?_ | refine wt_yes ?_ | refine wi_L ?_ | refine wi_T ?_ | refine wi_S ?_ | refine wi_R1 ?_ | refine wi_R2 ?_ | refine wi_R3 ?_ | refine wi_E ?_ | refine we_call ?_ | refine we_callF ?_ | refine we_bm ?_ | refine wg_sb ?_ | refine we_m1 ?_ | refine we_rev ?_ | refine wo_add ?_ | refine wo_sub ?_ | refine wo_neg ?_ | refine wo_cmp ?_ | refine wo_eqI ?_ | refine wo_neI ?_ | refine wo_eqS ?_ | refine wo_neS ?_ | refine wo_eqB ?_ | refine wo_neB ?_ | refine wo_lenL ?_ | refine wo_lenT ?_ | refine wo_lenC ?_ | refine wo_max ?_ | refine wo_min ?_ | refine wo_slL ?_ | refine wo_listC ?_ | refine wo_listL ?_ | refine wo_listT ?_ | refine wo_tupT ?_ | refine wo_tupL ?_ | refine wo_intI ?_ | refine wo_intB ?_ | refine wo_strS ?_ | refine wo_inS ?_ | refine wo_ninS ?_) | ((with_reducible apply we_var); rfl) | ((with_reducible apply ws_frz); rfl) | ((with_reducible apply ws_app); rfl) | ((with_reducible apply ws_extend); rfl) | ((with_reducible apply ws_retA); rfl) | ((with_reducible apply ws_frz0); rfl) | ((with_reducible apply wo_isT); rfl; rfl) | (refine ⟨Nat.le_of_ble_eq_true rfl, ?_⟩) | (with_reducible refine ⟨_, rfl, ?_⟩) | (with_reducible refine wg_nm (Nat.le_of_ble_eq_true rfl) ?_) | (refine ⟨⟨Nat.le_of_ble_eq_true rfl, Nat.le_of_ble_eq_true rfl⟩, ?_⟩) | (with_reducible refine Or.inl ⟨_, rfl, ?_⟩) | (with_reducible refine Or.inr ⟨_, rfl, ?_⟩))
    have e1 : (p : Int) + (x : Int) = ((p + x : Nat) : Int) := by omega
    rw [e1]
    refine ⟨fun _ => ?_, fun _ => ?_⟩
    · repeat (first | with_reducible (first | refine ws_seq ?_ | refine nxt_nx ?_ | refine lp_nx ?_ | refine lp_ct ?_ | refine lp_bk ?_ | refine lp_rt ?_ | refine lp_rf ?_ | refine nxt_rt ?_ | refine nxt_rf ?_ | refine nxt_bk ?_ | refine nxt_ct ?_ | refine end_nx ?_ | refine end_rt ?_ | refine end_rf ?_ | refine ws_next ?_ | refine ws_brk ?_ | refine ws_cnt ?_ | refine ws_do ?_ | refine ws_ret ?_ | refine ws_retF ?_ | refine ws_retN ?_ | refine ws_set ?_ | refine ws_acc ?_ | refine ws_par ?_ | refine ws_asg ?_ | refine ws_for ?_ | refine ws_if ?_ | refine we_2 ?_ | refine we_1 ?_ | refine we_n ?_ | refine we_3 ?_ | refine we_c ?_ | refine wo_none ?_ | refine wo_some ?_ | refine wl_cons ?_ | refine wl_nil ?_ | refine we_V ?_ | refine we_own ?_ | refine we_tup ?_ | refine wl_lst ?_ | refine wt_of ?_ | refine wt_or ?_ | refine wt_and ?_ | refine wt_not ?_ | refine we_and ?_ | refine we_or ?_ | refine we_not ?_ | refine we_if ?_ | refine we_isN ?_ | refine we_notN ?_ | refine we_chain ?_ | refine wt_yes ?_ | refine wi_L ?_ | refine wi_T ?_ | refine wi_S ?_ | refine wi_R1 ?_ | refine wi_R2 ?_ | refine wi_R3 ?_ | refine wi_E ?_ | refine we_call ?_ | refine we_callF ?_ | refine we_bm ?_ | refine wg_sb ?_ | refine we_m1 ?_ | refine we_rev ?_ | refine wo_add ?_ | refine wo_sub ?_ | refine wo_neg ?_ | refine wo_cmp ?_ | refine wo_eqI ?_ | refine wo_neI ?_ | refine wo_eqS ?_ | refine wo_neS ?_ | refine wo_eqB ?_ | refine wo_neB ?_ | refine wo_lenL ?_ | refine wo_lenT ?_ | refine wo_lenC ?_ | refine wo_max ?_ | refine wo_min ?_ | refine wo_slL ?_ | refine wo_listC ?_ | refine wo_listL ?_ | refine wo_listT ?_ | refine wo_tupT ?_ | refine wo_tupL ?_ | refine wo_intI ?_ | refine wo_intB ?_ | refine wo_strS ?_ | refine wo_inS ?_ | refine wo_ninS ?_) | ((with_reducible apply we_var); rfl) | ((with_reducible apply ws_frz); rfl) | ((with_reducible apply ws_app); rfl) | ((with_reducible apply ws_extend); rfl) | ((with_reducible apply ws_retA); rfl) | ((with_reducible apply ws_frz0); rfl) | ((with_reducible apply wo_isT); rfl; rfl) | (refine ⟨Nat.le_of_ble_eq_true rfl, ?_⟩) | (with_reducible refine ⟨_, rfl, ?_⟩) | (with_reducible refine wg_nm (Nat.le_of_ble_eq_true rfl) ?_) | (refine ⟨⟨Nat.le_of_ble_eq_true rfl, Nat.le_of_ble_eq_true rfl⟩, ?_⟩) | (with_reducible refine Or.inl ⟨_, rfl, ?_⟩) | (with_reducible refine Or.inr ⟨_, rfl, ?_⟩))
      refine wo_slS (by omega) ?_
      rw [cut_lo]
      repeat (first | with_reducible (first | refine ws_seq ?_ | refine nxt_nx ?_ | refine lp_nx ?_ | refine lp_ct ?_ | refine lp_bk ?_ | refine lp_rt ?_ | refine lp_rf ?_ | refine nxt_rt ?_ | refine nxt_rf ?_ | refine nxt_bk ?_ | refine nxt_ct ?_ | refine end_nx ?_ | refine end_rt ?_ | refine end_rf ?_ | refine ws_next ?_ | refine ws_brk ?_ | refine ws_cnt ?_ | refine ws_do ?_ | refine ws_ret ?_ | refine ws_retF ?_ | refine ws_retN ?_ | refine ws_set ?_ | refine ws_acc ?_ | refine ws_par ?_ | refine ws_asg ?_ | refine ws_for ?_ | refine ws_if ?_ | refine we_2 ?_ | refine we_1 ?_ | refine we_n ?_ | refine we_3 ?_ | refine we_c ?_ | refine wo_none ?_ | refine wo_some ?_ | refine wl_cons ?_ | refine wl_nil ?_ | refine we_V ?_ | refine we_own ?_ | refine we_tup ?_ | refine wl_lst ?_ | refine wt_of ?_ | refine wt_or ?_ | refine wt_and ?_ | refine wt_not ?_ | refine we_and ?_ | refine we_or ?_ | refine we_not ?_ | refine we_if ?_ | refine we_isN ?_ | refine we_notN ?_ | refine we_chain ?_ | refine wt_yes ?_ | refine wi_L ?_ | refine wi_T ?_ | refine wi_S ?_ | refine wi_R1 ?_ | refine wi_R2 ?_ | refine wi_R3 ?_ | refine wi_E ?_ | refine we_call ?_ | refine we_callF ?_ | refine we_bm ?_ | refine wg_sb ?_ | refine we_m1 ?_ | refine we_rev ?_ | refine wo_add ?_ | refine wo_sub ?_ | refine wo_neg ?_ | refine wo_cmp ?_ | refine wo_eqI ?_ | refine wo_neI ?_ | refine wo_eqS ?_ | refine wo_neS ?_ | refine wo_eqB ?_ | refine wo_neB ?_ | refine wo_lenL ?_ | refine wo_lenT ?_ | refine wo_lenC ?_ | refine wo_max ?_ | refine wo_min ?_ | refine wo_slL ?_ | refine wo_listC ?_ | refine wo_listL ?_ | refine wo_listT ?_ | refine wo_tupT ?_ | refine wo_tupL ?_ | refine wo_intI ?_ | refine wo_intB ?_ | refine wo_strS ?_ | refine wo_inS ?_ | refine wo_ninS ?_) | ((with_reducible apply we_var); rfl) | ((with_reducible apply ws_frz); rfl) | ((with_reducible apply ws_app); rfl) | ((with_reducible apply ws_extend); rfl) | ((with_reducible apply ws_retA); rfl) | ((with_reducible apply ws_frz0); rfl) | ((with_reducible apply wo_isT); rfl; rfl) | (refine ⟨Nat.le_of_ble_eq_true rfl, ?_⟩) | (with_reducible refine ⟨_, rfl, ?_⟩) | (with_reducible refine wg_nm (Nat.le_of_ble_eq_true rfl) ?_) | (refine ⟨⟨Nat.le_of_ble_eq_true rfl, Nat.le_of_ble_eq_true rfl⟩, ?_⟩) | (with_reducible refine Or.inl ⟨_, rfl, ?_⟩) | (with_reducible refine Or.inr ⟨_, rfl, ?_⟩))
      refine wo_slS (by omega) ?_
      rw [cut_hi]
      refine wo_addS (by simp; omega) ?_
      repeat (first | with_reducible (first | refine ws_seq ?_ | refine nxt_nx ?_ | refine lp_nx ?_ | refine lp_ct ?_ | refine lp_bk ?_ | refine lp_rt ?_ | refine lp_rf ?_ | refine nxt_rt ?_ | refine nxt_rf ?_ | refine nxt_bk ?_ | refine nxt_ct ?_ | refine end_nx ?_ | refine end_rt ?_ | refine end_rf ?_ | refine ws_next ?_ | refine ws_brk ?_ | refine ws_cnt ?_ | refine ws_do ?_ | refine ws_ret ?_ | refine ws_retF ?_ | refine ws_retN ?_ | refine ws_set ?_ | refine ws_acc ?_ | refine ws_par ?_ | refine ws_asg ?_ | refine ws_for ?_ | refine ws_if ?_ | refine we_2 ?_ | refine we_1 ?_ | refine we_n ?_ | refine we_3 ?_ | refine we_c ?_ | refine wo_none ?_ | refine wo_some ?_ | refine wl_cons ?_ | refine wl_nil ?_ | refine we_V ?_ | refine we_own ?_ | refine we_tup ?_ | refine wl_lst ?_ | refine wt_of ?_ | refine wt_or ?_ | refine wt_and ?_ | refine wt_not ?_ | refine we_and ?_ | refine we_or ?_ | refine we_not ?_ | refine we_if ?_ | refine we_isN ?_ | refine we_notN ?_ | refine we_chain ?_ | refine wt_yes ?_ | refine wi_L ?_ | refine wi_T ?_ | refine wi_S ?_ | refine wi_R1 ?_ | refine wi_R2 ?_ | refine wi_R3 ?_ | refine wi_E ?_ | refine we_call ?_ | refine we_callF ?_ | refine we_bm ?_ | refine wg_sb ?_ | refine we_m1 ?_ | refine we_rev ?_ | refine wo_add ?_ | refine wo_sub ?_ | refine wo_neg ?_ | refine wo_cmp ?_ | refine wo_eqI ?_ | refine wo_neI ?_ | refine wo_eqS ?_ | refine wo_neS ?_ | refine wo_eqB ?_ | refine wo_neB ?_ | refine wo_lenL ?_ | refine wo_lenT ?_ | refine wo_lenC ?_ | refine wo_max ?_ | refine wo_min ?_ | refine wo_slL ?_ | refine wo_listC ?_ | refine wo_listL ?_ | refine wo_listT ?_ | refine wo_tupT ?_ | refine wo_tupL ?_ | refine wo_intI ?_ | refine wo_intB ?_ | refine wo_strS ?_ | refine wo_inS ?_ | refine wo_ninS ?_) | ((with_reducible apply we_var); rfl) | ((with_reducible apply ws_frz); rfl) | ((with_reducible apply ws_app); rfl) | ((with_reducible apply ws_extend); rfl) | ((with_reducible apply ws_retA); rfl) | ((with_reducible apply ws_frz0); rfl) | ((with_reducible apply wo_isT); rfl; rfl) | (refine ⟨Nat.le_of_ble_eq_true rfl, ?_⟩) | (with_reducible refine ⟨_, rfl, ?_⟩) | (with_reducible refine wg_nm (Nat.le_of_ble_eq_true rfl) ?_) | (refine ⟨⟨Nat.le_of_ble_eq_true rfl, Nat.le_of_ble_eq_true rfl⟩, ?_⟩) | (with_reducible refine Or.inl ⟨_, rfl, ?_⟩) | (with_reducible refine Or.inr ⟨_, rfl, ?_⟩))
      exact ⟨by simp; omega, okS_app (okS_take ht) (okS_drop ht), B5⟩
    repeat (first | with_reducible (first | refine ws_seq ?_ | refine nxt_nx ?_ | refine lp_nx ?_ | refine lp_ct ?_ | refine lp_bk ?_ | refine lp_rt ?_ | refine lp_rf ?_ | refine nxt_rt ?_ | refine nxt_rf ?_ | refine nxt_bk ?_ | refine nxt_ct ?_ | refine end_nx ?_ | refine end_rt ?_ | refine end_rf ?_ | refine ws_next ?_ | refine ws_brk ?_ | refine ws_cnt ?_ | refine ws_do ?_ | refine ws_ret ?_ | refine ws_retF ?_ | refine ws_retN ?_ | refine ws_set ?_ | refine ws_acc ?_ | refine ws_par ?_ | refine ws_asg ?_ | refine ws_for ?_ | refine ws_if ?_ | refine we_2 ?_ | refine we_1 ?_ | refine we_n ?_ | refine we_3 ?_ | refine we_c ?_ | refine wo_none ?_ | refine wo_some ?_ | refine wl_cons ?_ | refine wl_nil ?_ | refine we_V ?_ | refine we_own ?_ | refine we_tup ?_ | refine wl_lst ?_ | refine wt_of ?_ | refine wt_or ?_ | refine wt_and ?_ | refine wt_not ?_ | refine we_and ?_ | refine we_or ?_ | refine we_not ?_ | refine we_if ?_ | refine we_isN ?_ | refine we_notN ?_ | refine we_chain ?_ | refine wt_yes ?_ | refine wi_L ?_ | refine wi_T ?_ | refine wi_S ?_ | refine wi_R1 ?_ | refine wi_R2 ?_ | refine wi_R3 ?_ | refine wi_E ?_ | refine we_call ?_ | refine we_callF ?_ | refine we_bm ?_ | refine wg_sb ?_ | refine we_m1 ?_ | refine we_rev ?_ | refine wo_add ?_ | refine wo_sub ?_ | refine wo_neg ?_ | refine wo_cmp ?_ | refine wo_eqI ?_ | refine wo_neI ?_ | refine wo_eqS ?_ | refine wo_neS ?_ | refine wo_eqB ?_ | refine wo_neB ?_ | refine wo_lenL ?_ | refine wo_lenT ?_ | refine wo_lenC ?_ | refine wo_max ?_ | refine wo_min ?_ | refine wo_slL ?_ | refine wo_listC ?_ | refine wo_listL ?_ | refine wo_listT ?_ | refine wo_tupT ?_ | refine wo_tupL ?_ | refine wo_intI ?_ | refine wo_intB ?_ | refine wo_strS ?_ | refine wo_inS ?_ | refine wo_ninS ?_) | ((with_reducible apply we_var); rfl) | ((with_reducible apply ws_frz); rfl) | ((with_reducible apply ws_app); rfl) | ((with_reducible apply ws_extend); rfl) | ((with_reducible apply ws_retA); rfl) | ((with_reducible apply ws_frz0); rfl) | ((with_reducible apply wo_isT); rfl; rfl) | (refine ⟨Nat.le_of_ble_eq_true rfl, ?_⟩) | (with_reducible refine ⟨_, rfl, ?_⟩) | (with_reducible refine wg_nm (Nat.le_of_ble_eq_true rfl) ?_) | (refine ⟨⟨Nat.le_of_ble_eq_true rfl, Nat.le_of_ble_eq_true rfl⟩, ?_⟩) | (with_reducible refine Or.inl ⟨_, rfl, ?_⟩) | (with_reducible refine Or.inr ⟨_, rfl, ?_⟩))
    refine ⟨fun _ => ?_, fun _ => ?_⟩
    · repeat (first | with_reducible (first | refine ws_seq ?_ | refine nxt_nx ?_ | refine lp_nx ?_ | refine lp_ct ?_ | refine lp_bk ?_ | refine lp_rt ?_ | refine lp_rf ?_ | refine nxt_rt ?_ | refine nxt_rf ?_ | refine nxt_bk ?_ | refine nxt_ct ?_ | refine end_nx ?_ | refine end_rt ?_ | refine end_rf ?_ | refine ws_next ?_ | refine ws_brk ?_ | refine ws_cnt ?_ | refine ws_do ?_ | refine ws_ret ?_ | refine ws_retF ?_ | refine ws_retN ?_ | refine ws_set ?_ | refine ws_acc ?_ | refine ws_par ?_ | refine ws_asg ?_ | refine ws_for ?_ | refine ws_if ?_ | refine we_2 ?_ | refine we_1 ?_ | refine we_n ?_ | refine we_3 ?_ | refine we_c ?_ | refine wo_none ?_ | refine wo_some ?_ | refine wl_cons ?_ | refine wl_nil ?_ | refine we_V ?_ | refine we_own ?_ | refine we_tup ?_ | refine wl_lst ?_ | refine wt_of ?_ | refine wt_or ?_ | refine wt_and ?_ | refine wt_not ?_ | refine we_and ?_ | refine we_or ?_ | refine we_not ?_ | refine we_if ?_ | refine we_isN ?_ | refine we_notN ?_ | refine we_chain ?_ | refine wt_yes ?_ | refine wi_L ?_ | refine wi_T ?_ | refine wi_S ?_ | refine wi_R1 ?_ | refine wi_R2 ?_ | refine wi_R3 ?_ | refine wi_E ?_ | refine we_call ?_ | refine we_callF ?_ | refine we_bm ?_ | refine wg_sb ?_ | refine we_m1 ?_ | refine we_rev ?_ | refine wo_add ?_ | refine wo_sub ?_ | refine wo_neg ?_ | refine wo_cmp ?_ | refine wo_eqI ?_ | refine wo_neI ?_ | refine wo_eqS ?_ | refine wo_neS ?_ | refine wo_eqB ?_ | refine wo_neB ?_ | refine wo_lenL ?_ | refine wo_lenT ?_ | refine wo_lenC ?_ | refine wo_max ?_ | refine wo_min ?_ | refine wo_slL ?_ | refine wo_listC ?_ | refine wo_listL ?_ | refine wo_listT ?_ | refine wo_tupT ?_ | refine wo_tupL ?_ | refine wo_intI ?_ | refine wo_intB ?_ | refine wo_strS ?_ | refine wo_inS ?_ | refine wo_ninS ?_) | ((with_reducible apply we_var); rfl) | ((with_reducible apply ws_frz); rfl) | ((with_reducible apply ws_app); rfl) | ((with_reducible apply ws_extend); rfl) | ((with_reducible apply ws_retA); rfl) | ((with_reducible apply ws_frz0); rfl) | ((with_reducible apply wo_isT); rfl; rfl) | (refine ⟨Nat.le_of_ble_eq_true rfl, ?_⟩) | (with_reducible refine ⟨_, rfl, ?_⟩) | (with_reducible refine wg_nm (Nat.le_of_ble_eq_true rfl) ?_) | (refine ⟨⟨Nat.le_of_ble_eq_true rfl, Nat.le_of_ble_eq_true rfl⟩, ?_⟩) | (with_reducible refine Or.inl ⟨_, rfl, ?_⟩) | (with_reducible refine Or.inr ⟨_, rfl, ?_⟩))
      refine (draw_nat (n := 2) b5.box (by omega) (by omega)).mono fun o S6 e => ?_
      obtain ⟨y, rfl, hy, b6⟩ := e
      repeat (first | with_reducible (first | refine ws_seq ?_ | refine nxt_nx ?_ | refine lp_nx ?_ | refine lp_ct ?_ | refine lp_bk ?_ | refine lp_rt ?_ | refine lp_rf ?_ | refine nxt_rt ?_ | refine nxt_rf ?_ | refine nxt_bk ?_ | refine nxt_ct ?_ | refine end_nx ?_ | refine end_rt ?_ | refine end_rf ?_ | refine ws_next ?_ | refine ws_brk ?_ | refine ws_cnt ?_ | refine ws_do ?_ | refine ws_ret ?_ | refine ws_retF ?_ | refine ws_retN ?_ | refine ws_set ?_ | refine ws_acc ?_ | refine ws_par ?_ | refine ws_asg ?_ | refine ws_for ?_ | refine ws_if ?_ | refine we_2 ?_ | refine we_1 ?_ | refine we_n ?_ | refine we_3 ?_ | refine we_c ?_ | refine wo_none ?_ | refine wo_some ?_ | refine wl_cons ?_ | refine wl_nil ?_ | refine we_V ?_ | refine we_own ?_ | refine we_tup ?_ | refine wl_lst ?_ | refine wt_of ?_ | refine wt_or ?_ | refine wt_and ?_ | refine wt_not ?_ | refine we_and ?_ | refine we_or ?_ | refine we_not ?_ | refine we_if ?_ | refine we_isN ?_ | refine we_notN ?_ | refine we_chain ?_ | refine wt_yes ?_ | refine wi_L ?_ | refine wi_T ?_ | refine wi_S ?_ | refine wi_R1 ?_ | refine wi_R2 ?_ | refine wi_R3 ?_ | refine wi_E ?_ | refine we_call ?_ | refine we_callF ?_ | refine we_bm ?_ | refine wg_sb ?_ | refine we_m1 ?_ | refine we_rev ?_ | refine wo_add ?_ | refine wo_sub ?_ | refine wo_neg ?_ | refine wo_cmp ?_ | refine wo_eqI ?_ | refine wo_neI ?_ | refine wo_eqS ?_ | refine wo_neS ?_ | refine wo_eqB ?_ | refine wo_neB ?_ | refine wo_lenL ?_ | refine wo_lenT ?_ | refine wo_lenC ?_ | refine wo_max ?_ | refine wo_min ?_ | refine wo_slL ?_ | refine wo_listC ?_ | refine wo_listL ?_ | refine wo_listT ?_ | refine wo_tupT ?_ | refine wo_tupL ?_ | refine wo_intI ?_ | refine wo_intB ?_ | refine wo_strS ?_ | refine wo_inS ?_ | refine wo_ninS ?_) | ((with_reducible apply we_var); rfl) | ((with_reducible apply ws_frz); rfl) | ((with_reducible apply ws_app); rfl) | ((with_reducible apply ws_extend); rfl) | ((with_reducible apply ws_retA); rfl) | ((with_reducible apply ws_frz0); rfl) | ((with_reducible apply wo_isT); rfl; rfl) | (refine ⟨Nat.le_of_ble_eq_true rfl, ?_⟩) | (with_reducible refine ⟨_, rfl, ?_⟩) | (with_reducible refine wg_nm (Nat.le_of_ble_eq_true rfl) ?_) | (refine ⟨⟨Nat.le_of_ble_eq_true rfl, Nat.le_of_ble_eq_true rfl⟩, ?_⟩) | (with_reducible refine Or.inl ⟨_, rfl, ?_⟩) | (with_reducible refine Or.inr ⟨_, rfl, ?_⟩))
      refine wo_mulS ⟨by omega, by omega, by simp; omega⟩ ?_
      repeat (first | with_reducible (first | refine ws_seq ?_ | refine nxt_nx ?_ | refine lp_nx ?_ | refine lp_ct ?_ | refine lp_bk ?_ | refine lp_rt ?_ | refine lp_rf ?_ | refine nxt_rt ?_ | refine nxt_rf ?_ | refine nxt_bk ?_ | refine nxt_ct ?_ | refine end_nx ?_ | refine end_rt ?_ | refine end_rf ?_ | refine ws_next ?_ | refine ws_brk ?_ | refine ws_cnt ?_ | refine ws_do ?_ | refine ws_ret ?_ | refine ws_retF ?_ | refine ws_retN ?_ | refine ws_set ?_ | refine ws_acc ?_ | refine ws_par ?_ | refine ws_asg ?_ | refine ws_for ?_ | refine ws_if ?_ | refine we_2 ?_ | refine we_1 ?_ | refine we_n ?_ | refine we_3 ?_ | refine we_c ?_ | refine wo_none ?_ | refine wo_some ?_ | refine wl_cons ?_ | refine wl_nil ?_ | refine we_V ?_ | refine we_own ?_ | refine we_tup ?_ | refine wl_lst ?_ | refine wt_of ?_ | refine wt_or ?_ | refine wt_and ?_ | refine wt_not ?_ | refine we_and ?_ | refine we_or ?_ | refine we_not ?_ | refine we_if ?_ | refine we_isN ?_ | refine we_notN ?_ | refine we_chain ?_ | refine wt_yes ?_ | refine wi_L ?_ | refine wi_T ?_ | refine wi_S ?_ | refine wi_R1 ?_ | refine wi_R2 ?_ | refine wi_R3 ?_ | refine wi_E ?_ | refine we_call ?_ | refine we_callF ?_ | refine we_bm ?_ | refine wg_sb ?_ | refine we_m1 ?_ | refine we_rev ?_ | refine wo_add ?_ | refine wo_sub ?_ | refine wo_neg ?_ | refine wo_cmp ?_ | refine wo_eqI ?_ | refine wo_neI ?_ | refine wo_eqS ?_ | refine wo_neS ?_ | refine wo_eqB ?_ | refine wo_neB ?_ | refine wo_lenL ?_ | refine wo_lenT ?_ | refine wo_lenC ?_ | refine wo_max ?_ | refine wo_min ?_ | refine wo_slL ?_ | refine wo_listC ?_ | refine wo_listL ?_ | refine wo_listT ?_ | refine wo_tupT ?_ | refine wo_tupL ?_ | refine wo_intI ?_ | refine wo_intB ?_ | refine wo_strS ?_ | refine wo_inS ?_ | refine wo_ninS ?_) | ((with_reducible apply we_var); rfl) | ((with_reducible apply ws_frz); rfl) | ((with_reducible apply ws_app); rfl) | ((with_reducible apply ws_extend); rfl) | ((with_reducible apply ws_retA); rfl) | ((with_reducible apply ws_frz0); rfl) | ((with_reducible apply wo_isT); rfl; rfl) | (refine ⟨Nat.le_of_ble_eq_true rfl, ?_⟩) | (with_reducible refine ⟨_, rfl, ?_⟩) | (with_reducible refine wg_nm (Nat.le_of_ble_eq_true rfl) ?_) | (refine ⟨⟨Nat.le_of_ble_eq_true rfl, Nat.le_of_ble_eq_true rfl⟩, ?_⟩) | (with_reducible refine Or.inl ⟨_, rfl, ?_⟩) | (with_reducible refine Or.inr ⟨_, rfl, ?_⟩))
      refine wo_addS (by simp; omega) ?_
      repeat (first | with_reducible (first | refine ws_seq ?_ | refine nxt_nx ?_ | refine lp_nx ?_ | refine lp_ct ?_ | refine lp_bk ?_ | refine lp_rt ?_ | refine lp_rf ?_ | refine nxt_rt ?_ | refine nxt_rf ?_ | refine nxt_bk ?_ | refine nxt_ct ?_ | refine end_nx ?_ | refine end_rt ?_ | refine end_rf ?_ | refine ws_next ?_ | refine ws_brk ?_ | refine ws_cnt ?_ | refine ws_do ?_ | refine ws_ret ?_ | refine ws_retF ?_ | refine ws_retN ?_ | refine ws_set ?_ | refine ws_acc ?_ | refine ws_par ?_ | refine ws_asg ?_ | refine ws_for ?_ | refine ws_if ?_ | refine we_2 ?_ | refine we_1 ?_ | refine we_n ?_ | refine we_3 ?_ | refine we_c ?_ | refine wo_none ?_ | refine wo_some ?_ | refine wl_cons ?_ | refine wl_nil ?_ | refine we_V ?_ | refine we_own ?_ | refine we_tup ?_ | refine wl_lst ?_ | refine wt_of ?_ | refine wt_or ?_ | refine wt_and ?_ | refine wt_not ?_ | refine we_and ?_ | refine we_or ?_ | refine we_not ?_ | refine we_if ?_ | refine we_isN ?_ | refine we_notN ?_ | refine we_chain ?_ | refine wt_yes ?_ | refine wi_L ?_ | refine wi_T ?_ | refine wi_S ?_ | refine wi_R1 ?_ | refine wi_R2 ?_ | refine wi_R3 ?_ | refine wi_E ?_ | refine we_call ?_ | refine we_callF ?_ | refine we_bm ?_ | refine wg_sb ?_ | refine we_m1 ?_ | refine we_rev ?_ | refine wo_add ?_ | refine wo_sub ?_ | refine wo_neg ?_ | refine wo_cmp ?_ | refine wo_eqI ?_ | refine wo_neI ?_ | refine wo_eqS ?_ | refine wo_neS ?_ | refine wo_eqB ?_ | refine wo_neB ?_ | refine wo_lenL ?_ | refine wo_lenT ?_ | refine wo_lenC ?_ | refine wo_max ?_ | refine wo_min ?_ | refine wo_slL ?_ | refine wo_listC ?_ | refine wo_listL ?_ | refine wo_listT ?_ | refine wo_tupT ?_ | refine wo_tupL ?_ | refine wo_intI ?_ | refine wo_intB ?_ | refine wo_strS ?_ | refine wo_inS ?_ | refine wo_ninS ?_) | ((with_reducible apply we_var); rfl) | ((with_reducible apply ws_frz); rfl) | ((with_reducible apply ws_app); rfl) | ((with_reducible apply ws_extend); rfl) | ((with_reducible apply ws_retA); rfl) | ((with_reducible apply ws_frz0); rfl) | ((with_reducible apply wo_isT); rfl; rfl) | (refine ⟨Nat.le_of_ble_eq_true rfl, ?_⟩) | (with_reducible refine ⟨_, rfl, ?_⟩) | (with_reducible refine wg_nm (Nat.le_of_ble_eq_true rfl) ?_) | (refine ⟨⟨Nat.le_of_ble_eq_true rfl, Nat.le_of_ble_eq_true rfl⟩, ?_⟩) | (with_reducible refine Or.inl ⟨_, rfl, ?_⟩) | (with_reducible refine Or.inr ⟨_, rfl, ?_⟩))
      refine ⟨by simp; omega, okS_app ?_ ht, B5.trans b6⟩
      intro c hc
      simp at hc
      omega
    · repeat (first | with_reducible (first | refine ws_seq ?_ | refine nxt_nx ?_ | refine lp_nx ?_ | refine lp_ct ?_ | refine lp_bk ?_ | refine lp_rt ?_ | refine lp_rf ?_ | refine nxt_rt ?_ | refine nxt_rf ?_ | refine nxt_bk ?_ | refine nxt_ct ?_ | refine end_nx ?_ | refine end_rt ?_ | refine end_rf ?_ | refine ws_next ?_ | refine ws_brk ?_ | refine ws_cnt ?_ | refine ws_do ?_ | refine ws_ret ?_ | refine ws_retF ?_ | refine ws_retN ?_ | refine ws_set ?_ | refine ws_acc ?_ | refine ws_par ?_ | refine ws_asg ?_ | refine ws_for ?_ | refine ws_if ?_ | refine we_2 ?_ | refine we_1 ?_ | refine we_n ?_ | refine we_3 ?_ | refine we_c ?_ | refine wo_none ?_ | refine wo_some ?_ | refine wl_cons ?_ | refine wl_nil ?_ | refine we_V ?_ | refine we_own ?_ | refine we_tup ?_ | refine wl_lst ?_ | refine wt_of ?_ | refine wt_or ?_ | refine wt_and ?_ | refine wt_not ?_ | refine we_and ?_ | refine we_or ?_ | refine we_not ?_ | refine we_if ?_ | refine we_isN ?_ | refine we_notN ?_ | refine we_chain ?_ | refine wt_yes ?_ | refine wi_L ?_ | refine wi_T ?_ | refine wi_S ?_ | refine wi_R1 ?_ | refine wi_R2 ?_ | refine wi_R3 ?_ | refine wi_E ?_ | refine we_call ?_ | refine we_callF ?_ | refine we_bm ?_ | refine wg_sb ?_ | refine we_m1 ?_ | refine we_rev ?_ | refine wo_add ?_ | refine wo_sub ?_ | refine wo_neg ?_ | refine wo_cmp ?_ | refine wo_eqI ?_ | refine wo_neI ?_ | refine wo_eqS ?_ | refine wo_neS ?_ | refine wo_eqB ?_ | refine wo_neB ?_ | refine wo_lenL ?_ | refine wo_lenT ?_ | refine wo_lenC ?_ | refine wo_max ?_ | refine wo_min ?_ | refine wo_slL ?_ | refine wo_listC ?_ | refine wo_listL ?_ | refine wo_listT ?_ | refine wo_tupT ?_ | refine wo_tupL ?_ | refine wo_intI ?_ | refine wo_intB ?_ | refine wo_strS ?_ | refine wo_inS ?_ | refine wo_ninS ?_) | ((with_reducible apply we_var); rfl) | ((with_reducible apply ws_frz); rfl) | ((with_reducible apply ws_app); rfl) | ((with_reducible apply ws_extend); rfl) | ((with_reducible apply ws_retA); rfl) | ((with_reducible apply ws_frz0); rfl) | ((with_reducible apply wo_isT); rfl; rfl) | (refine ⟨Nat.le_of_ble_eq_true rfl, ?_⟩) | (with_reducible refine ⟨_, rfl, ?_⟩) | (with_reducible refine wg_nm (Nat.le_of_ble_eq_true rfl) ?_) | (refine ⟨⟨Nat.le_of_ble_eq_true rfl, Nat.le_of_ble_eq_true rfl⟩, ?_⟩) | (with_reducible refine Or.inl ⟨_, rfl, ?_⟩) | (with_reducible refine Or.inr ⟨_, rfl, ?_⟩))
      refine wo_slS (by omega) ?_
      rw [cut_lo]
      repeat (first | with_reducible (first | refine ws_seq ?_ | refine nxt_nx ?_ | refine lp_nx ?_ | refine lp_ct ?_ | refine lp_bk ?_ | refine lp_rt ?_ | refine lp_rf ?_ | refine nxt_rt ?_ | refine nxt_rf ?_ | refine nxt_bk ?_ | refine nxt_ct ?_ | refine end_nx ?_ | refine end_rt ?_ | refine end_rf ?_ | refine ws_next ?_ | refine ws_brk ?_ | refine ws_cnt ?_ | refine ws_do ?_ | refine ws_ret ?_ | refine ws_retF ?_ | refine ws_retN ?_ | refine ws_set ?_ | refine ws_acc ?_ | refine ws_par ?_ | refine ws_asg ?_ | refine ws_for ?_ | refine ws_if ?_ | refine we_2 ?_ | refine we_1 ?_ | refine we_n ?_ | refine we_3 ?_ | refine we_c ?_ | refine wo_none ?_ | refine wo_some ?_ | refine wl_cons ?_ | refine wl_nil ?_ | refine we_V ?_ | refine we_own ?_ | refine we_tup ?_ | refine wl_lst ?_ | refine wt_of ?_ | refine wt_or ?_ | refine wt_and ?_ | refine wt_not ?_ | refine we_and ?_ | refine we_or ?_ | refine we_not ?_ | refine we_if ?_ | refine we_isN ?_ | refine we_notN ?_ | refine we_chain ?_ | refine wt_yes ?_ | refine wi_L ?_ | refine wi_T ?_ | refine wi_S ?_ | refine wi_R1 ?_ | refine wi_R2 ?_ | refine wi_R3 ?_ | refine wi_E ?_ | refine we_call ?_ | refine we_callF ?_ | refine we_bm ?_ | refine wg_sb ?_ | refine we_m1 ?_ | refine we_rev ?_ | refine wo_add ?_ | refine wo_sub ?_ | refine wo_neg ?_ | refine wo_cmp ?_ | refine wo_eqI ?_ | refine wo_neI ?_ | refine wo_eqS ?_ | refine wo_neS ?_ | refine wo_eqB ?_ | refine wo_neB ?_ | refine wo_lenL ?_ | refine wo_lenT ?_ | refine wo_lenC ?_ | refine wo_max ?_ | refine wo_min ?_ | refine wo_slL ?_ | refine wo_listC ?_ | refine wo_listL ?_ | refine wo_listT ?_ | refine wo_tupT ?_ | refine wo_tupL ?_ | refine wo_intI ?_ | refine wo_intB ?_ | refine wo_strS ?_ | refine wo_inS ?_ | refine wo_ninS ?_) | ((with_reducible apply we_var); rfl) | ((with_reducible apply ws_frz); rfl) | ((with_reducible apply ws_app); rfl) | ((with_reducible apply ws_extend); rfl) | ((with_reducible apply ws_retA); rfl) | ((with_reducible apply ws_frz0); rfl) | ((with_reducible apply wo_isT); rfl; rfl) | (refine ⟨Nat.le_of_ble_eq_true rfl, ?_⟩) | (with_reducible refine ⟨_, rfl, ?_⟩) | (with_reducible refine wg_nm (Nat.le_of_ble_eq_true rfl) ?_) | (refine ⟨⟨Nat.le_of_ble_eq_true rfl, Nat.le_of_ble_eq_true rfl⟩, ?_⟩) | (with_reducible refine Or.inl ⟨_, rfl, ?_⟩) | (with_reducible refine Or.inr ⟨_, rfl, ?_⟩))
      have e2 : (p : Int) + 2 = ((p + 2 : Nat) : Int) := by omega
      rw [e2]
      refine wo_slS (by omega) ?_
      rw [cut_mid]
      refine wo_rev (by simp; omega) ?_
      repeat (first | with_reducible (first | refine ws_seq ?_ | refine nxt_nx ?_ | refine lp_nx ?_ | refine lp_ct ?_ | refine lp_bk ?_ | refine lp_rt ?_ | refine lp_rf ?_ | refine nxt_rt ?_ | refine nxt_rf ?_ | refine nxt_bk ?_ | refine nxt_ct ?_ | refine end_nx ?_ | refine end_rt ?_ | refine end_rf ?_ | refine ws_next ?_ | refine ws_brk ?_ | refine ws_cnt ?_ | refine ws_do ?_ | refine ws_ret ?_ | refine ws_retF ?_ | refine ws_retN ?_ | refine ws_set ?_ | refine ws_acc ?_ | refine ws_par ?_ | refine ws_asg ?_ | refine ws_for ?_ | refine ws_if ?_ | refine we_2 ?_ | refine we_1 ?_ | refine we_n ?_ | refine we_3 ?_ | refine we_c ?_ | refine wo_none ?_ | refine wo_some ?_ | refine wl_cons ?_ | refine wl_nil ?_ | refine we_V ?_ | refine we_own ?_ | refine we_tup ?_ | refine wl_lst ?_ | refine wt_of ?_ | refine wt_or ?_ | refine wt_and ?_ | refine wt_not ?_ | refine we_and ?_ | refine we_or ?_ | refine we_not ?_ | refine we_if ?_ | refine we_isN ?_ | refine we_notN ?_ | refine we_chain ?_ | refine wt_yes ?_ | refine wi_L ?_ | refine wi_T ?_ | refine wi_S ?_ | refine wi_R1 ?_ | refine wi_R2 ?_ | refine wi_R3 ?_ | refine wi_E ?_ | refine we_call ?_ | refine we_callF ?_ | refine we_bm ?_ | refine wg_sb ?_ | refine we_m1 ?_ | refine we_rev ?_ | refine wo_add ?_ | refine wo_sub ?_ | refine wo_neg ?_ | refine wo_cmp ?_ | refine wo_eqI ?_ | refine wo_neI ?_ | refine wo_eqS ?_ | refine wo_neS ?_ | refine wo_eqB ?_ | refine wo_neB ?_ | refine wo_lenL ?_ | refine wo_lenT ?_ | refine wo_lenC ?_ | refine wo_max ?_ | refine wo_min ?_ | refine wo_slL ?_ | refine wo_listC ?_ | refine wo_listL ?_ | refine wo_listT ?_ | refine wo_tupT ?_ | refine wo_tupL ?_ | refine wo_intI ?_ | refine wo_intB ?_ | refine wo_strS ?_ | refine wo_inS ?_ | refine wo_ninS ?_) | ((with_reducible apply we_var); rfl) | ((with_reducible apply ws_frz); rfl) | ((with_reducible apply ws_app); rfl) | ((with_reducible apply ws_extend); rfl) | ((with_reducible apply ws_retA); rfl) | ((with_reducible apply ws_frz0); rfl) | ((with_reducible apply wo_isT); rfl; rfl) | (refine ⟨Nat.le_of_ble_eq_true rfl, ?_⟩) | (with_reducible refine ⟨_, rfl, ?_⟩) | (with_reducible refine wg_nm (Nat.le_of_ble_eq_true rfl) ?_) | (refine ⟨⟨Nat.le_of_ble_eq_true rfl, Nat.le_of_ble_eq_true rfl⟩, ?_⟩) | (with_reducible refine Or.inl ⟨_, rfl, ?_⟩) | (with_reducible refine Or.inr ⟨_, rfl, ?_⟩))
      refine wo_addS (by simp; omega) ?_
      repeat (first | with_reducible (first | refine ws_seq ?_ | refine nxt_nx ?_ | refine lp_nx ?_ | refine lp_ct ?_ | refine lp_bk ?_ | refine lp_rt ?_ | refine lp_rf ?_ | refine nxt_rt ?_ | refine nxt_rf ?_ | refine nxt_bk ?_ | refine nxt_ct ?_ | refine end_nx ?_ | refine end_rt ?_ | refine end_rf ?_ | refine ws_next ?_ | refine ws_brk ?_ | refine ws_cnt ?_ | refine ws_do ?_ | refine ws_ret ?_ | refine ws_retF ?_ | refine ws_retN ?_ | refine ws_set ?_ | refine ws_acc ?_ | refine ws_par ?_ | refine ws_asg ?_ | refine ws_for ?_ | refine ws_if ?_ | refine we_2 ?_ | refine we_1 ?_ | refine we_n ?_ | refine we_3 ?_ | refine we_c ?_ | refine wo_none ?_ | refine wo_some ?_ | refine wl_cons ?_ | refine wl_nil ?_ | refine we_V ?_ | refine we_own ?_ | refine we_tup ?_ | refine wl_lst ?_ | refine wt_of ?_ | refine wt_or ?_ | refine wt_and ?_ | refine wt_not ?_ | refine we_and ?_ | refine we_or ?_ | refine we_not ?_ | refine we_if ?_ | refine we_isN ?_ | refine we_notN ?_ | refine we_chain ?_ | refine wt_yes ?_ | refine wi_L ?_ | refine wi_T ?_ | refine wi_S ?_ | refine wi_R1 ?_ | refine wi_R2 ?_ | refine wi_R3 ?_ | refine wi_E ?_ | refine we_call ?_ | refine we_callF ?_ | refine we_bm ?_ | refine wg_sb ?_ | refine we_m1 ?_ | refine we_rev ?_ | refine wo_add ?_ | refine wo_sub ?_ | refine wo_neg ?_ | refine wo_cmp ?_ | refine wo_eqI ?_ | refine wo_neI ?_ | refine wo_eqS ?_ | refine wo_neS ?_ | refine wo_eqB ?_ | refine wo_neB ?_ | refine wo_lenL ?_ | refine wo_lenT ?_ | refine wo_lenC ?_ | refine wo_max ?_ | refine wo_min ?_ | refine wo_slL ?_ | refine wo_listC ?_ | refine wo_listL ?_ | refine wo_listT ?_ | refine wo_tupT ?_ | refine wo_tupL ?_ | refine wo_intI ?_ | refine wo_intB ?_ | refine wo_strS ?_ | refine wo_inS ?_ | refine wo_ninS ?_) | ((with_reducible apply we_var); rfl) | ((with_reducible apply ws_frz); rfl) | ((with_reducible apply ws_app); rfl) | ((with_reducible apply ws_extend); rfl) | ((with_reducible apply ws_retA); rfl) | ((with_reducible apply ws_frz0); rfl) | ((with_reducible apply wo_isT); rfl; rfl) | (refine ⟨Nat.le_of_ble_eq_true rfl, ?_⟩) | (with_reducible refine ⟨_, rfl, ?_⟩) | (with_reducible refine wg_nm (Nat.le_of_ble_eq_true rfl) ?_) | (refine ⟨⟨Nat.le_of_ble_eq_true rfl, Nat.le_of_ble_eq_true rfl⟩, ?_⟩) | (with_reducible refine Or.inl ⟨_, rfl, ?_⟩) | (with_reducible refine Or.inr ⟨_, rfl, ?_⟩))
      rw [e2]
      refine wo_slS (by omega) ?_
      rw [cut_hi]
      refine wo_addS (by simp; omega) ?_
      repeat (first | with_reducible (first | refine ws_seq ?_ | refine nxt_nx ?_ | refine lp_nx ?_ | refine lp_ct ?_ | refine lp_bk ?_ | refine lp_rt ?_ | refine lp_rf ?_ | refine nxt_rt ?_ | refine nxt_rf ?_ | refine nxt_bk ?_ | refine nxt_ct ?_ | refine end_nx ?_ | refine end_rt ?_ | refine end_rf ?_ | refine ws_next ?_ | refine ws_brk ?_ | refine ws_cnt ?_ | refine ws_do ?_ | refine ws_ret ?_ | refine ws_retF ?_ | refine ws_retN ?_ | refine ws_set ?_ | refine ws_acc ?_ | refine ws_par ?_ | refine ws_asg ?_ | refine ws_for ?_ | refine ws_if ?_ | refine we_2 ?_ | refine we_1 ?_ | refine we_n ?_ | refine we_3 ?_ | refine we_c ?_ | refine wo_none ?_ | refine wo_some ?_ | refine wl_cons ?_ | refine wl_nil ?_ | refine we_V ?_ | refine we_own ?_ | refine we_tup ?_ | refine wl_lst ?_ | refine wt_of ?_ | refine wt_or ?_ | refine wt_and ?_ | refine wt_not ?_ | refine we_and ?_ | refine we_or ?_ | refine we_not ?_ | refine we_if ?_ | refine we_isN ?_ | refine we_notN ?_ | refine we_chain ?_ | refine wt_yes ?_ | refine wi_L ?_ | refine wi_T ?_ | refine wi_S ?_ | refine wi_R1 ?_ | refine wi_R2 ?_ | refine wi_R3 ?_ | refine wi_E ?_ | refine we_call ?_ | refine we_callF ?_ | refine we_bm ?_ | refine wg_sb ?_ | refine we_m1 ?_ | refine we_rev ?_ | refine wo_add ?_ | refine wo_sub ?_ | refine wo_neg ?_ | refine wo_cmp ?_ | refine wo_eqI ?_ | refine wo_neI ?_ | refine wo_eqS ?_ | refine wo_neS ?_ | refine wo_eqB ?_ | refine wo_neB ?_ | refine wo_lenL ?_ | refine wo_lenT ?_ | refine wo_lenC ?_ | refine wo_max ?_ | refine wo_min ?_ | refine wo_slL ?_ | refine wo_listC ?_ | refine wo_listL ?_ | refine wo_listT ?_ | refine wo_tupT ?_ | refine wo_tupL ?_ | refine wo_intI ?_ | refine wo_intB ?_ | refine wo_strS ?_ | refine wo_inS ?_ | refine wo_ninS ?_) | ((with_reducible apply we_var); rfl) | ((with_reducible apply ws_frz); rfl) | ((with_reducible apply ws_app); rfl) | ((with_reducible apply ws_extend); rfl) | ((with_reducible apply ws_retA); rfl) | ((with_reducible apply ws_frz0); rfl) | ((with_reducible apply wo_isT); rfl; rfl) | (refine ⟨Nat.le_of_ble_eq_true rfl, ?_⟩) | (with_reducible refine ⟨_, rfl, ?_⟩) | (with_reducible refine wg_nm (Nat.le_of_ble_eq_true rfl) ?_) | (refine ⟨⟨Nat.le_of_ble_eq_true rfl, Nat.le_of_ble_eq_true rfl⟩, ?_⟩) | (with_reducible refine Or.inl ⟨_, rfl, ?_⟩) | (with_reducible refine Or.inr ⟨_, rfl, ?_⟩))
      exact ⟨by simp; omega, okS_app (okS_app (okS_take ht) (fun c hc => okS_take (okS_drop ht) c (List.mem_reverse.mp hc))) (okS_drop ht), B5⟩
/-- the fields so far -/
def Gr (fs : List (List Nat)) (k : Nat) : Prop := fs.length = k ∧ (∀ z ∈ fs, ∀ c ∈ z, c ∈ sg) ∧ (fs.map (·.length)).sum ≤ 10 * k
theorem Gr.add {fs : List (List Nat)} {k : Nat} {z : List Nat} (h : Gr fs k) (h1 : z.length ≤ 10) (h2 : ∀ c ∈ z, c ∈ sg) : Gr (fs ++ [z]) (k + 1) := by
  obtain ⟨a, b, c⟩ := h
  refine ⟨by simp [a], fun y hy => ?_, ?_⟩
  · rcases List.mem_append.mp hy with q | q
    · exact b y q
    · rw [List.mem_singleton] at q
      rw [q]
      exact h2
  · rw [List.map_append, List.sum_append]
    simp
    omega
def some12 : List (List Nat) := [[], [33], [46, 46, 33], [48, 46, 48, 46, 33], [49, 46, 49, 46, 97, 33], [49, 46, 49, 46, 97], [49, 46, 50, 46, 97, 33], [48, 49, 46, 49, 46, 97, 33], [49, 46, 48, 49, 46, 97, 33], [32, 49, 46, 49, 46, 97, 33], [49, 46, 49, 46, 97, 33, 33], [45, 49, 46, 49, 46, 97, 33]]
theorem some12_ok : ∀ z ∈ some12, z.length ≤ 100 ∧ ∀ c ∈ z, c < 1114112 := by decide
theorem law_true (ns : List Int) (h : ns.length ≤ 63) : ∃ S', F_law [.scr ns] Sto.nil0 = some (.v (.bl true), S') := by
  suffices hw : W (F_law [.scr ns] Sto.nil0) fun o S' => o = .v (.bl true) by
    obtain ⟨o, S', e, rfl⟩ := hw
    exact ⟨S', e⟩
  refine w_run rfl ?_
  show WS (b_law [.val (.scr ns), .no, .no, .no, .no, .no, .no, .no, .no, .no, .no, .no, .no] Sto.nil0) _
  unfold b_law
  rw [e_begun, e_take, e_alike, e_packed, e_unpacked]
  repeat (first | with_reducible (first | refine ws_seq ?_ | refine nxt_nx ?_ | refine lp_nx ?_ | refine lp_ct ?_ | refine lp_bk ?_ | refine lp_rt ?_ | refine lp_rf ?_ | refine nxt_rt ?_ | refine nxt_rf ?_ | refine nxt_bk ?_ | refine nxt_ct ?_ | refine end_nx ?_ | refine end_rt ?_ | refine end_rf ?_ | refine ws_next ?_ | refine ws_brk ?_ | refine ws_cnt ?_ | refine ws_do ?_ | refine ws_ret ?_ | refine ws_retF ?_ | refine ws_retN ?_ | refine ws_set ?_ | refine ws_acc ?_ | refine ws_par ?_ | refine ws_asg ?_ | refine ws_for ?_ | refine ws_if ?_ | refine we_2 ?_ | refine we_1 ?_ | refine we_n ?_ | refine we_3 ?_ | refine we_c ?_ | refine wo_none ?_ | refine wo_some ?_ | refine wl_cons ?_ | refine wl_nil ?_ | refine we_V ?_ | refine we_own ?_ | refine we_tup ?_ | refine wl_lst ?_ | refine wt_of ?_ | refine wt_or ?_ | refine wt_and ?_ | refine wt_not ?_ | refine we_and ?_ | refine we_or ?_ | refine we_not ?_ | refine we_if ?_ | refine we_isN ?_ | refine we_notN ?_ | refine we_chain ?_ | refine wt_yes ?_ | refine wi_L ?_ | refine wi_T ?_ | refine wi_S ?_ | refine wi_R1 ?_ | refine wi_R2 ?_ | refine wi_R3 ?_ | refine wi_E ?_ | refine we_call ?_ | refine we_callF ?_ | refine we_bm ?_ | refine wg_sb ?_ | refine we_m1 ?_ | refine we_rev ?_ | refine wo_add ?_ | refine wo_sub ?_ | refine wo_neg ?_ | refine wo_cmp ?_ | refine wo_eqI ?_ | refine wo_neI ?_ | refine wo_eqS ?_ | refine wo_neS ?_ | refine wo_eqB ?_ | refine wo_neB ?_ | refine wo_lenL ?_ | refine wo_lenT ?_ | refine wo_lenC ?_ | refine wo_max ?_ | refine wo_min ?_ | refine wo_slL ?_ | refine wo_listC ?_ | refine wo_listL ?_ | refine wo_listT ?_ | refine wo_tupT ?_ | refine wo_tupL ?_ | refine wo_intI ?_ | refine wo_intB ?_ | refine wo_strS ?_ | refine wo_inS ?_ | refine wo_ninS ?_) | ((with_reducible apply we_var); rfl) | ((with_reducible apply ws_frz); rfl) | ((with_reducible apply ws_app); rfl) | ((with_reducible apply ws_extend); rfl) | ((with_reducible apply ws_retA); rfl) | ((with_reducible apply ws_frz0); rfl) | ((with_reducible apply wo_isT); rfl; rfl) | (refine ⟨Nat.le_of_ble_eq_true rfl, ?_⟩) | (with_reducible refine ⟨_, rfl, ?_⟩) | (with_reducible refine wg_nm (Nat.le_of_ble_eq_true rfl) ?_) | (refine ⟨⟨Nat.le_of_ble_eq_true rfl, Nat.le_of_ble_eq_true rfl⟩, ?_⟩) | (with_reducible refine Or.inl ⟨_, rfl, ?_⟩) | (with_reducible refine Or.inr ⟨_, rfl, ?_⟩))
  refine (begun_ok h).mono fun o S1 e => ?_
  obtain ⟨l, m, rfl, bx, up⟩ := e
  repeat (first | with_reducible (first | refine ws_seq ?_ | refine nxt_nx ?_ | refine lp_nx ?_ | refine lp_ct ?_ | refine lp_bk ?_ | refine lp_rt ?_ | refine lp_rf ?_ | refine nxt_rt ?_ | refine nxt_rf ?_ | refine nxt_bk ?_ | refine nxt_ct ?_ | refine end_nx ?_ | refine end_rt ?_ | refine end_rf ?_ | refine ws_next ?_ | refine ws_brk ?_ | refine ws_cnt ?_ | refine ws_do ?_ | refine ws_ret ?_ | refine ws_retF ?_ | refine ws_retN ?_ | refine ws_set ?_ | refine ws_acc ?_ | refine ws_par ?_ | refine ws_asg ?_ | refine ws_for ?_ | refine ws_if ?_ | refine we_2 ?_ | refine we_1 ?_ | refine we_n ?_ | refine we_3 ?_ | refine we_c ?_ | refine wo_none ?_ | refine wo_some ?_ | refine wl_cons ?_ | refine wl_nil ?_ | refine we_V ?_ | refine we_own ?_ | refine we_tup ?_ | refine wl_lst ?_ | refine wt_of ?_ | refine wt_or ?_ | refine wt_and ?_ | refine wt_not ?_ | refine we_and ?_ | refine we_or ?_ | refine we_not ?_ | refine we_if ?_ | refine we_isN ?_ | refine we_notN ?_ | refine we_chain ?_ | refine wt_yes ?_ | refine wi_L ?_ | refine wi_T ?_ | refine wi_S ?_ | refine wi_R1 ?_ | refine wi_R2 ?_ | refine wi_R3 ?_ | refine wi_E ?_ | refine we_call ?_ | refine we_callF ?_ | refine we_bm ?_ | refine wg_sb ?_ | refine we_m1 ?_ | refine we_rev ?_ | refine wo_add ?_ | refine wo_sub ?_ | refine wo_neg ?_ | refine wo_cmp ?_ | refine wo_eqI ?_ | refine wo_neI ?_ | refine wo_eqS ?_ | refine wo_neS ?_ | refine wo_eqB ?_ | refine wo_neB ?_ | refine wo_lenL ?_ | refine wo_lenT ?_ | refine wo_lenC ?_ | refine wo_max ?_ | refine wo_min ?_ | refine wo_slL ?_ | refine wo_listC ?_ | refine wo_listL ?_ | refine wo_listT ?_ | refine wo_tupT ?_ | refine wo_tupL ?_ | refine wo_intI ?_ | refine wo_intB ?_ | refine wo_strS ?_ | refine wo_inS ?_ | refine wo_ninS ?_) | ((with_reducible apply we_var); rfl) | ((with_reducible apply ws_frz); rfl) | ((with_reducible apply ws_app); rfl) | ((with_reducible apply ws_extend); rfl) | ((with_reducible apply ws_retA); rfl) | ((with_reducible apply ws_frz0); rfl) | ((with_reducible apply wo_isT); rfl; rfl) | (refine ⟨Nat.le_of_ble_eq_true rfl, ?_⟩) | (with_reducible refine ⟨_, rfl, ?_⟩) | (with_reducible refine wg_nm (Nat.le_of_ble_eq_true rfl) ?_) | (refine ⟨⟨Nat.le_of_ble_eq_true rfl, Nat.le_of_ble_eq_true rfl⟩, ?_⟩) | (with_reducible refine Or.inl ⟨_, rfl, ?_⟩) | (with_reducible refine Or.inr ⟨_, rfl, ?_⟩))
  refine ⟨by decide, ?_⟩
  refine ws_loop (fun _ ρ S2 => Box S2 l m ∧ ∃ a b c d e f g h i j, ρ = [.val (.scr ns), .val (.ref l), .val (.str sg), a, b, c, d, e, f, g, h, i, j]) ⟨bx, _, _, _, _, _, _, _, _, _, _, rfl⟩ ?_ ?_
  · clear up bx
    rintro k d ρ S2 hk ⟨bx, a, b, c, x, e, f, g, j, i, y, rfl⟩
    repeat (first | with_reducible (first | refine ws_seq ?_ | refine nxt_nx ?_ | refine lp_nx ?_ | refine lp_ct ?_ | refine lp_bk ?_ | refine lp_rt ?_ | refine lp_rf ?_ | refine nxt_rt ?_ | refine nxt_rf ?_ | refine nxt_bk ?_ | refine nxt_ct ?_ | refine end_nx ?_ | refine end_rt ?_ | refine end_rf ?_ | refine ws_next ?_ | refine ws_brk ?_ | refine ws_cnt ?_ | refine ws_do ?_ | refine ws_ret ?_ | refine ws_retF ?_ | refine ws_retN ?_ | refine ws_set ?_ | refine ws_acc ?_ | refine ws_par ?_ | refine ws_asg ?_ | refine ws_for ?_ | refine ws_if ?_ | refine we_2 ?_ | refine we_1 ?_ | refine we_n ?_ | refine we_3 ?_ | refine we_c ?_ | refine wo_none ?_ | refine wo_some ?_ | refine wl_cons ?_ | refine wl_nil ?_ | refine we_V ?_ | refine we_own ?_ | refine we_tup ?_ | refine wl_lst ?_ | refine wt_of ?_ | refine wt_or ?_ | refine wt_and ?_ | refine wt_not ?_ | refine we_and ?_ | refine we_or ?_ | refine we_not ?_ | refine we_if ?_ | refine we_isN ?_ | refine we_notN ?_ | refine we_chain ?_ | refine wt_yes ?_ | refine wi_L ?_ | refine wi_T ?_ | refine wi_S ?_ | refine wi_R1 ?_ | refine wi_R2 ?_ | refine wi_R3 ?_ | refine wi_E ?_ | refine we_call ?_ | refine we_callF ?_ | refine we_bm ?_ | refine wg_sb ?_ | refine we_m1 ?_ | refine we_rev ?_ | refine wo_add ?_ | refine wo_sub ?_ | refine wo_neg ?_ | refine wo_cmp ?_ | refine wo_eqI ?_ | refine wo_neI ?_ | refine wo_eqS ?_ | refine wo_neS ?_ | refine wo_eqB ?_ | refine wo_neB ?_ | refine wo_lenL ?_ | refine wo_lenT ?_ | refine wo_lenC ?_ | refine wo_max ?_ | refine wo_min ?_ | refine wo_slL ?_ | refine wo_listC ?_ | refine wo_listL ?_ | refine wo_listT ?_ | refine wo_tupT ?_ | refine wo_tupL ?_ | refine wo_intI ?_ | refine wo_intB ?_ | refine wo_strS ?_ | refine wo_inS ?_ | refine wo_ninS ?_) | ((with_reducible apply we_var); rfl) | ((with_reducible apply ws_frz); rfl) | ((with_reducible apply ws_app); rfl) | ((with_reducible apply ws_extend); rfl) | ((with_reducible apply ws_retA); rfl) | ((with_reducible apply ws_frz0); rfl) | ((with_reducible apply wo_isT); rfl; rfl) | (refine ⟨Nat.le_of_ble_eq_true rfl, ?_⟩) | (with_reducible refine ⟨_, rfl, ?_⟩) | (with_reducible refine wg_nm (Nat.le_of_ble_eq_true rfl) ?_) | (refine ⟨⟨Nat.le_of_ble_eq_true rfl, Nat.le_of_ble_eq_true rfl⟩, ?_⟩) | (with_reducible refine Or.inl ⟨_, rfl, ?_⟩) | (with_reducible refine Or.inr ⟨_, rfl, ?_⟩))
    refine (draw_nat (n := 6) bx (by omega) (by omega)).mono fun o S4 e => ?_
    obtain ⟨n, rfl, hn, bx4⟩ := e
    repeat (first | with_reducible (first | refine ws_seq ?_ | refine nxt_nx ?_ | refine lp_nx ?_ | refine lp_ct ?_ | refine lp_bk ?_ | refine lp_rt ?_ | refine lp_rf ?_ | refine nxt_rt ?_ | refine nxt_rf ?_ | refine nxt_bk ?_ | refine nxt_ct ?_ | refine end_nx ?_ | refine end_rt ?_ | refine end_rf ?_ | refine ws_next ?_ | refine ws_brk ?_ | refine ws_cnt ?_ | refine ws_do ?_ | refine ws_ret ?_ | refine ws_retF ?_ | refine ws_retN ?_ | refine ws_set ?_ | refine ws_acc ?_ | refine ws_par ?_ | refine ws_asg ?_ | refine ws_for ?_ | refine ws_if ?_ | refine we_2 ?_ | refine we_1 ?_ | refine we_n ?_ | refine we_3 ?_ | refine we_c ?_ | refine wo_none ?_ | refine wo_some ?_ | refine wl_cons ?_ | refine wl_nil ?_ | refine we_V ?_ | refine we_own ?_ | refine we_tup ?_ | refine wl_lst ?_ | refine wt_of ?_ | refine wt_or ?_ | refine wt_and ?_ | refine wt_not ?_ | refine we_and ?_ | refine we_or ?_ | refine we_not ?_ | refine we_if ?_ | refine we_isN ?_ | refine we_notN ?_ | refine we_chain ?_ | refine wt_yes ?_ | refine wi_L ?_ | refine wi_T ?_ | refine wi_S ?_ | refine wi_R1 ?_ | refine wi_R2 ?_ | refine wi_R3 ?_ | refine wi_E ?_ | refine we_call ?_ | refine we_callF ?_ | refine we_bm ?_ | refine wg_sb ?_ | refine we_m1 ?_ | refine we_rev ?_ | refine wo_add ?_ | refine wo_sub ?_ | refine wo_neg ?_ | refine wo_cmp ?_ | refine wo_eqI ?_ | refine wo_neI ?_ | refine wo_eqS ?_ | refine wo_neS ?_ | refine wo_eqB ?_ | refine wo_neB ?_ | refine wo_lenL ?_ | refine wo_lenT ?_ | refine wo_lenC ?_ | refine wo_max ?_ | refine wo_min ?_ | refine wo_slL ?_ | refine wo_listC ?_ | refine wo_listL ?_ | refine wo_listT ?_ | refine wo_tupT ?_ | refine wo_tupL ?_ | refine wo_intI ?_ | refine wo_intB ?_ | refine wo_strS ?_ | refine wo_inS ?_ | refine wo_ninS ?_) | ((with_reducible apply we_var); rfl) | ((with_reducible apply ws_frz); rfl) | ((with_reducible apply ws_app); rfl) | ((with_reducible apply ws_extend); rfl) | ((with_reducible apply ws_retA); rfl) | ((with_reducible apply ws_frz0); rfl) | ((with_reducible apply wo_isT); rfl; rfl) | (refine ⟨Nat.le_of_ble_eq_true rfl, ?_⟩) | (with_reducible refine ⟨_, rfl, ?_⟩) | (with_reducible refine wg_nm (Nat.le_of_ble_eq_true rfl) ?_) | (refine ⟨⟨Nat.le_of_ble_eq_true rfl, Nat.le_of_ble_eq_true rfl⟩, ?_⟩) | (with_reducible refine Or.inl ⟨_, rfl, ?_⟩) | (with_reducible refine Or.inr ⟨_, rfl, ?_⟩))
    refine ⟨by omega, ?_⟩
    refine ws_loop (fun k ρ S7 => Box S7 l m ∧ ∃ fs : List (List Nat), Gr fs k ∧ ∃ f g h i j q r s, ρ = [.val (.scr ns), .val (.ref l), .val (.str sg), .val d, .acc (fs.map .str), f, g, h, i, j, q, r, s]) ⟨bx4.box, [], ⟨rfl, fun z hz => (nomatch hz), Nat.le_refl _⟩, _, _, _, _, _, _, _, _, rfl⟩ ?_ ?_
    · clear bx bx4
      rintro k2 d2 ρ S7 hk2 ⟨bx, fs, hfs, f, g, h, i, j, q, r, s, rfl⟩
      obtain ⟨rfl, lt2⟩ := rng_get hk2
      repeat (first | with_reducible (first | refine ws_seq ?_ | refine nxt_nx ?_ | refine lp_nx ?_ | refine lp_ct ?_ | refine lp_bk ?_ | refine lp_rt ?_ | refine lp_rf ?_ | refine nxt_rt ?_ | refine nxt_rf ?_ | refine nxt_bk ?_ | refine nxt_ct ?_ | refine end_nx ?_ | refine end_rt ?_ | refine end_rf ?_ | refine ws_next ?_ | refine ws_brk ?_ | refine ws_cnt ?_ | refine ws_do ?_ | refine ws_ret ?_ | refine ws_retF ?_ | refine ws_retN ?_ | refine ws_set ?_ | refine ws_acc ?_ | refine ws_par ?_ | refine ws_asg ?_ | refine ws_for ?_ | refine ws_if ?_ | refine we_2 ?_ | refine we_1 ?_ | refine we_n ?_ | refine we_3 ?_ | refine we_c ?_ | refine wo_none ?_ | refine wo_some ?_ | refine wl_cons ?_ | refine wl_nil ?_ | refine we_V ?_ | refine we_own ?_ | refine we_tup ?_ | refine wl_lst ?_ | refine wt_of ?_ | refine wt_or ?_ | refine wt_and ?_ | refine wt_not ?_ | refine we_and ?_ | refine we_or ?_ | refine we_not ?_ | refine we_if ?_ | refine we_isN ?_ | refine we_notN ?_ | refine we_chain ?_ | refine wt_yes ?_ | refine wi_L ?_ | refine wi_T ?_ | refine wi_S ?_ | refine wi_R1 ?_ | refine wi_R2 ?_ | refine wi_R3 ?_ | refine wi_E ?_ | refine we_call ?_ | refine we_callF ?_ | refine we_bm ?_ | refine wg_sb ?_ | refine we_m1 ?_ | refine we_rev ?_ | refine wo_add ?_ | refine wo_sub ?_ | refine wo_neg ?_ | refine wo_cmp ?_ | refine wo_eqI ?_ | refine wo_neI ?_ | refine wo_eqS ?_ | refine wo_neS ?_ | refine wo_eqB ?_ | refine wo_neB ?_ | refine wo_lenL ?_ | refine wo_lenT ?_ | refine wo_lenC ?_ | refine wo_max ?_ | refine wo_min ?_ | refine wo_slL ?_ | refine wo_listC ?_ | refine wo_listL ?_ | refine wo_listT ?_ | refine wo_tupT ?_ | refine wo_tupL ?_ | refine wo_intI ?_ | refine wo_intB ?_ | refine wo_strS ?_ | refine wo_inS ?_ | refine wo_ninS ?_) | ((with_reducible apply we_var); rfl) | ((with_reducible apply ws_frz); rfl) | ((with_reducible apply ws_app); rfl) | ((with_reducible apply ws_extend); rfl) | ((with_reducible apply ws_retA); rfl) | ((with_reducible apply ws_frz0); rfl) | ((with_reducible apply wo_isT); rfl; rfl) | (refine ⟨Nat.le_of_ble_eq_true rfl, ?_⟩) | (with_reducible refine ⟨_, rfl, ?_⟩) | (with_reducible refine wg_nm (Nat.le_of_ble_eq_true rfl) ?_) | (refine ⟨⟨Nat.le_of_ble_eq_true rfl, Nat.le_of_ble_eq_true rfl⟩, ?_⟩) | (with_reducible refine Or.inl ⟨_, rfl, ?_⟩) | (with_reducible refine Or.inr ⟨_, rfl, ?_⟩))
      refine wl_drawn (A := sg) (l := l) (m := m) (fun d => rfl) ?_
      repeat (first | with_reducible (first | refine ws_seq ?_ | refine nxt_nx ?_ | refine lp_nx ?_ | refine lp_ct ?_ | refine lp_bk ?_ | refine lp_rt ?_ | refine lp_rf ?_ | refine nxt_rt ?_ | refine nxt_rf ?_ | refine nxt_bk ?_ | refine nxt_ct ?_ | refine end_nx ?_ | refine end_rt ?_ | refine end_rf ?_ | refine ws_next ?_ | refine ws_brk ?_ | refine ws_cnt ?_ | refine ws_do ?_ | refine ws_ret ?_ | refine ws_retF ?_ | refine ws_retN ?_ | refine ws_set ?_ | refine ws_acc ?_ | refine ws_par ?_ | refine ws_asg ?_ | refine ws_for ?_ | refine ws_if ?_ | refine we_2 ?_ | refine we_1 ?_ | refine we_n ?_ | refine we_3 ?_ | refine we_c ?_ | refine wo_none ?_ | refine wo_some ?_ | refine wl_cons ?_ | refine wl_nil ?_ | refine we_V ?_ | refine we_own ?_ | refine we_tup ?_ | refine wl_lst ?_ | refine wt_of ?_ | refine wt_or ?_ | refine wt_and ?_ | refine wt_not ?_ | refine we_and ?_ | refine we_or ?_ | refine we_not ?_ | refine we_if ?_ | refine we_isN ?_ | refine we_notN ?_ | refine we_chain ?_ | refine wt_yes ?_ | refine wi_L ?_ | refine wi_T ?_ | refine wi_S ?_ | refine wi_R1 ?_ | refine wi_R2 ?_ | refine wi_R3 ?_ | refine wi_E ?_ | refine we_call ?_ | refine we_callF ?_ | refine we_bm ?_ | refine wg_sb ?_ | refine we_m1 ?_ | refine we_rev ?_ | refine wo_add ?_ | refine wo_sub ?_ | refine wo_neg ?_ | refine wo_cmp ?_ | refine wo_eqI ?_ | refine wo_neI ?_ | refine wo_eqS ?_ | refine wo_neS ?_ | refine wo_eqB ?_ | refine wo_neB ?_ | refine wo_lenL ?_ | refine wo_lenT ?_ | refine wo_lenC ?_ | refine wo_max ?_ | refine wo_min ?_ | refine wo_slL ?_ | refine wo_listC ?_ | refine wo_listL ?_ | refine wo_listT ?_ | refine wo_tupT ?_ | refine wo_tupL ?_ | refine wo_intI ?_ | refine wo_intB ?_ | refine wo_strS ?_ | refine wo_inS ?_ | refine wo_ninS ?_) | ((with_reducible apply we_var); rfl) | ((with_reducible apply ws_frz); rfl) | ((with_reducible apply ws_app); rfl) | ((with_reducible apply ws_extend); rfl) | ((with_reducible apply ws_retA); rfl) | ((with_reducible apply ws_frz0); rfl) | ((with_reducible apply wo_isT); rfl; rfl) | (refine ⟨Nat.le_of_ble_eq_true rfl, ?_⟩) | (with_reducible refine ⟨_, rfl, ?_⟩) | (with_reducible refine wg_nm (Nat.le_of_ble_eq_true rfl) ?_) | (refine ⟨⟨Nat.le_of_ble_eq_true rfl, Nat.le_of_ble_eq_true rfl⟩, ?_⟩) | (with_reducible refine Or.inl ⟨_, rfl, ?_⟩) | (with_reducible refine Or.inr ⟨_, rfl, ?_⟩))
      refine (draw_nat (n := 9) bx (by omega) (by omega)).mono fun o S9 e => ?_
      obtain ⟨n2, rfl, hn2, bx9⟩ := e
      repeat (first | with_reducible (first | refine ws_seq ?_ | refine nxt_nx ?_ | refine lp_nx ?_ | refine lp_ct ?_ | refine lp_bk ?_ | refine lp_rt ?_ | refine lp_rf ?_ | refine nxt_rt ?_ | refine nxt_rf ?_ | refine nxt_bk ?_ | refine nxt_ct ?_ | refine end_nx ?_ | refine end_rt ?_ | refine end_rf ?_ | refine ws_next ?_ | refine ws_brk ?_ | refine ws_cnt ?_ | refine ws_do ?_ | refine ws_ret ?_ | refine ws_retF ?_ | refine ws_retN ?_ | refine ws_set ?_ | refine ws_acc ?_ | refine ws_par ?_ | refine ws_asg ?_ | refine ws_for ?_ | refine ws_if ?_ | refine we_2 ?_ | refine we_1 ?_ | refine we_n ?_ | refine we_3 ?_ | refine we_c ?_ | refine wo_none ?_ | refine wo_some ?_ | refine wl_cons ?_ | refine wl_nil ?_ | refine we_V ?_ | refine we_own ?_ | refine we_tup ?_ | refine wl_lst ?_ | refine wt_of ?_ | refine wt_or ?_ | refine wt_and ?_ | refine wt_not ?_ | refine we_and ?_ | refine we_or ?_ | refine we_not ?_ | refine we_if ?_ | refine we_isN ?_ | refine we_notN ?_ | refine we_chain ?_ | refine wt_yes ?_ | refine wi_L ?_ | refine wi_T ?_ | refine wi_S ?_ | refine wi_R1 ?_ | refine wi_R2 ?_ | refine wi_R3 ?_ | refine wi_E ?_ | refine we_call ?_ | refine we_callF ?_ | refine we_bm ?_ | refine wg_sb ?_ | refine we_m1 ?_ | refine we_rev ?_ | refine wo_add ?_ | refine wo_sub ?_ | refine wo_neg ?_ | refine wo_cmp ?_ | refine wo_eqI ?_ | refine wo_neI ?_ | refine wo_eqS ?_ | refine wo_neS ?_ | refine wo_eqB ?_ | refine wo_neB ?_ | refine wo_lenL ?_ | refine wo_lenT ?_ | refine wo_lenC ?_ | refine wo_max ?_ | refine wo_min ?_ | refine wo_slL ?_ | refine wo_listC ?_ | refine wo_listL ?_ | refine wo_listT ?_ | refine wo_tupT ?_ | refine wo_tupL ?_ | refine wo_intI ?_ | refine wo_intB ?_ | refine wo_strS ?_ | refine wo_inS ?_ | refine wo_ninS ?_) | ((with_reducible apply we_var); rfl) | ((with_reducible apply ws_frz); rfl) | ((with_reducible apply ws_app); rfl) | ((with_reducible apply ws_extend); rfl) | ((with_reducible apply ws_retA); rfl) | ((with_reducible apply ws_frz0); rfl) | ((with_reducible apply wo_isT); rfl; rfl) | (refine ⟨Nat.le_of_ble_eq_true rfl, ?_⟩) | (with_reducible refine ⟨_, rfl, ?_⟩) | (with_reducible refine wg_nm (Nat.le_of_ble_eq_true rfl) ?_) | (refine ⟨⟨Nat.le_of_ble_eq_true rfl, Nat.le_of_ble_eq_true rfl⟩, ?_⟩) | (with_reducible refine Or.inl ⟨_, rfl, ?_⟩) | (with_reducible refine Or.inr ⟨_, rfl, ?_⟩))
      refine ⟨by omega, _, rng_len, by omega, bx9.box, fun S10 d b10 => ?_, fun zs S10 hz hz2 bx10 => ?_⟩
      · repeat (first | with_reducible (first | refine ws_seq ?_ | refine nxt_nx ?_ | refine lp_nx ?_ | refine lp_ct ?_ | refine lp_bk ?_ | refine lp_rt ?_ | refine lp_rf ?_ | refine nxt_rt ?_ | refine nxt_rf ?_ | refine nxt_bk ?_ | refine nxt_ct ?_ | refine end_nx ?_ | refine end_rt ?_ | refine end_rf ?_ | refine ws_next ?_ | refine ws_brk ?_ | refine ws_cnt ?_ | refine ws_do ?_ | refine ws_ret ?_ | refine ws_retF ?_ | refine ws_retN ?_ | refine ws_set ?_ | refine ws_acc ?_ | refine ws_par ?_ | refine ws_asg ?_ | refine ws_for ?_ | refine ws_if ?_ | refine we_2 ?_ | refine we_1 ?_ | refine we_n ?_ | refine we_3 ?_ | refine we_c ?_ | refine wo_none ?_ | refine wo_some ?_ | refine wl_cons ?_ | refine wl_nil ?_ | refine we_V ?_ | refine we_own ?_ | refine we_tup ?_ | refine wl_lst ?_ | refine wt_of ?_ | refine wt_or ?_ | refine wt_and ?_ | refine wt_not ?_ | refine we_and ?_ | refine we_or ?_ | refine we_not ?_ | refine we_if ?_ | refine we_isN ?_ | refine we_notN ?_ | refine we_chain ?_ | refine wt_yes ?_ | refine wi_L ?_ | refine wi_T ?_ | refine wi_S ?_ | refine wi_R1 ?_ | refine wi_R2 ?_ | refine wi_R3 ?_ | refine wi_E ?_ | refine we_call ?_ | refine we_callF ?_ | refine we_bm ?_ | refine wg_sb ?_ | refine we_m1 ?_ | refine we_rev ?_ | refine wo_add ?_ | refine wo_sub ?_ | refine wo_neg ?_ | refine wo_cmp ?_ | refine wo_eqI ?_ | refine wo_neI ?_ | refine wo_eqS ?_ | refine wo_neS ?_ | refine wo_eqB ?_ | refine wo_neB ?_ | refine wo_lenL ?_ | refine wo_lenT ?_ | refine wo_lenC ?_ | refine wo_max ?_ | refine wo_min ?_ | refine wo_slL ?_ | refine wo_listC ?_ | refine wo_listL ?_ | refine wo_listT ?_ | refine wo_tupT ?_ | refine wo_tupL ?_ | refine wo_intI ?_ | refine wo_intB ?_ | refine wo_strS ?_ | refine wo_inS ?_ | refine wo_ninS ?_) | ((with_reducible apply we_var); rfl) | ((with_reducible apply ws_frz); rfl) | ((with_reducible apply ws_app); rfl) | ((with_reducible apply ws_extend); rfl) | ((with_reducible apply ws_retA); rfl) | ((with_reducible apply ws_frz0); rfl) | ((with_reducible apply wo_isT); rfl; rfl) | (refine ⟨Nat.le_of_ble_eq_true rfl, ?_⟩) | (with_reducible refine ⟨_, rfl, ?_⟩) | (with_reducible refine wg_nm (Nat.le_of_ble_eq_true rfl) ?_) | (refine ⟨⟨Nat.le_of_ble_eq_true rfl, Nat.le_of_ble_eq_true rfl⟩, ?_⟩) | (with_reducible refine Or.inl ⟨_, rfl, ?_⟩) | (with_reducible refine Or.inr ⟨_, rfl, ?_⟩))
        refine (draw_sign (A := sg) b10 (by rfl) (by omega) (by omega)).mono fun o S11 e => ?_
        obtain ⟨r, c, rfl, hc, hcA, bx11⟩ := e
        repeat (first | with_reducible (first | refine ws_seq ?_ | refine nxt_nx ?_ | refine lp_nx ?_ | refine lp_ct ?_ | refine lp_bk ?_ | refine lp_rt ?_ | refine lp_rf ?_ | refine nxt_rt ?_ | refine nxt_rf ?_ | refine nxt_bk ?_ | refine nxt_ct ?_ | refine end_nx ?_ | refine end_rt ?_ | refine end_rf ?_ | refine ws_next ?_ | refine ws_brk ?_ | refine ws_cnt ?_ | refine ws_do ?_ | refine ws_ret ?_ | refine ws_retF ?_ | refine ws_retN ?_ | refine ws_set ?_ | refine ws_acc ?_ | refine ws_par ?_ | refine ws_asg ?_ | refine ws_for ?_ | refine ws_if ?_ | refine we_2 ?_ | refine we_1 ?_ | refine we_n ?_ | refine we_3 ?_ | refine we_c ?_ | refine wo_none ?_ | refine wo_some ?_ | refine wl_cons ?_ | refine wl_nil ?_ | refine we_V ?_ | refine we_own ?_ | refine we_tup ?_ | refine wl_lst ?_ | refine wt_of ?_ | refine wt_or ?_ | refine wt_and ?_ | refine wt_not ?_ | refine we_and ?_ | refine we_or ?_ | refine we_not ?_ | refine we_if ?_ | refine we_isN ?_ | refine we_notN ?_ | refine we_chain ?_ | refine wt_yes ?_ | refine wi_L ?_ | refine wi_T ?_ | refine wi_S ?_ | refine wi_R1 ?_ | refine wi_R2 ?_ | refine wi_R3 ?_ | refine wi_E ?_ | refine we_call ?_ | refine we_callF ?_ | refine we_bm ?_ | refine wg_sb ?_ | refine we_m1 ?_ | refine we_rev ?_ | refine wo_add ?_ | refine wo_sub ?_ | refine wo_neg ?_ | refine wo_cmp ?_ | refine wo_eqI ?_ | refine wo_neI ?_ | refine wo_eqS ?_ | refine wo_neS ?_ | refine wo_eqB ?_ | refine wo_neB ?_ | refine wo_lenL ?_ | refine wo_lenT ?_ | refine wo_lenC ?_ | refine wo_max ?_ | refine wo_min ?_ | refine wo_slL ?_ | refine wo_listC ?_ | refine wo_listL ?_ | refine wo_listT ?_ | refine wo_tupT ?_ | refine wo_tupL ?_ | refine wo_intI ?_ | refine wo_intB ?_ | refine wo_strS ?_ | refine wo_inS ?_ | refine wo_ninS ?_) | ((with_reducible apply we_var); rfl) | ((with_reducible apply ws_frz); rfl) | ((with_reducible apply ws_app); rfl) | ((with_reducible apply ws_extend); rfl) | ((with_reducible apply ws_retA); rfl) | ((with_reducible apply ws_frz0); rfl) | ((with_reducible apply wo_isT); rfl; rfl) | (refine ⟨Nat.le_of_ble_eq_true rfl, ?_⟩) | (with_reducible refine ⟨_, rfl, ?_⟩) | (with_reducible refine wg_nm (Nat.le_of_ble_eq_true rfl) ?_) | (refine ⟨⟨Nat.le_of_ble_eq_true rfl, Nat.le_of_ble_eq_true rfl⟩, ?_⟩) | (with_reducible refine Or.inl ⟨_, rfl, ?_⟩) | (with_reducible refine Or.inr ⟨_, rfl, ?_⟩))
        refine wo_ixS (by decide) (by omega) (by rw [Int.toNat_natCast]; exact hc) ?_
        exact ⟨c, rfl, hcA, bx11⟩
      repeat (first | with_reducible (first | refine ws_seq ?_ | refine nxt_nx ?_ | refine lp_nx ?_ | refine lp_ct ?_ | refine lp_bk ?_ | refine lp_rt ?_ | refine lp_rf ?_ | refine nxt_rt ?_ | refine nxt_rf ?_ | refine nxt_bk ?_ | refine nxt_ct ?_ | refine end_nx ?_ | refine end_rt ?_ | refine end_rf ?_ | refine ws_next ?_ | refine ws_brk ?_ | refine ws_cnt ?_ | refine ws_do ?_ | refine ws_ret ?_ | refine ws_retF ?_ | refine ws_retN ?_ | refine ws_set ?_ | refine ws_acc ?_ | refine ws_par ?_ | refine ws_asg ?_ | refine ws_for ?_ | refine ws_if ?_ | refine we_2 ?_ | refine we_1 ?_ | refine we_n ?_ | refine we_3 ?_ | refine we_c ?_ | refine wo_none ?_ | refine wo_some ?_ | refine wl_cons ?_ | refine wl_nil ?_ | refine we_V ?_ | refine we_own ?_ | refine we_tup ?_ | refine wl_lst ?_ | refine wt_of ?_ | refine wt_or ?_ | refine wt_and ?_ | refine wt_not ?_ | refine we_and ?_ | refine we_or ?_ | refine we_not ?_ | refine we_if ?_ | refine we_isN ?_ | refine we_notN ?_ | refine we_chain ?_ | refine wt_yes ?_ | refine wi_L ?_ | refine wi_T ?_ | refine wi_S ?_ | refine wi_R1 ?_ | refine wi_R2 ?_ | refine wi_R3 ?_ | refine wi_E ?_ | refine we_call ?_ | refine we_callF ?_ | refine we_bm ?_ | refine wg_sb ?_ | refine we_m1 ?_ | refine we_rev ?_ | refine wo_add ?_ | refine wo_sub ?_ | refine wo_neg ?_ | refine wo_cmp ?_ | refine wo_eqI ?_ | refine wo_neI ?_ | refine wo_eqS ?_ | refine wo_neS ?_ | refine wo_eqB ?_ | refine wo_neB ?_ | refine wo_lenL ?_ | refine wo_lenT ?_ | refine wo_lenC ?_ | refine wo_max ?_ | refine wo_min ?_ | refine wo_slL ?_ | refine wo_listC ?_ | refine wo_listL ?_ | refine wo_listT ?_ | refine wo_tupT ?_ | refine wo_tupL ?_ | refine wo_intI ?_ | refine wo_intB ?_ | refine wo_strS ?_ | refine wo_inS ?_ | refine wo_ninS ?_) | ((with_reducible apply we_var); rfl) | ((with_reducible apply ws_frz); rfl) | ((with_reducible apply ws_app); rfl) | ((with_reducible apply ws_extend); rfl) | ((with_reducible apply ws_retA); rfl) | ((with_reducible apply ws_frz0); rfl) | ((with_reducible apply wo_isT); rfl; rfl) | (refine ⟨Nat.le_of_ble_eq_true rfl, ?_⟩) | (with_reducible refine ⟨_, rfl, ?_⟩) | (with_reducible refine wg_nm (Nat.le_of_ble_eq_true rfl) ?_) | (refine ⟨⟨Nat.le_of_ble_eq_true rfl, Nat.le_of_ble_eq_true rfl⟩, ?_⟩) | (with_reducible refine Or.inl ⟨_, rfl, ?_⟩) | (with_reducible refine Or.inr ⟨_, rfl, ?_⟩))
      refine wo_joinC (by omega) ?_
      repeat (first | with_reducible (first | refine ws_seq ?_ | refine nxt_nx ?_ | refine lp_nx ?_ | refine lp_ct ?_ | refine lp_bk ?_ | refine lp_rt ?_ | refine lp_rf ?_ | refine nxt_rt ?_ | refine nxt_rf ?_ | refine nxt_bk ?_ | refine nxt_ct ?_ | refine end_nx ?_ | refine end_rt ?_ | refine end_rf ?_ | refine ws_next ?_ | refine ws_brk ?_ | refine ws_cnt ?_ | refine ws_do ?_ | refine ws_ret ?_ | refine ws_retF ?_ | refine ws_retN ?_ | refine ws_set ?_ | refine ws_acc ?_ | refine ws_par ?_ | refine ws_asg ?_ | refine ws_for ?_ | refine ws_if ?_ | refine we_2 ?_ | refine we_1 ?_ | refine we_n ?_ | refine we_3 ?_ | refine we_c ?_ | refine wo_none ?_ | refine wo_some ?_ | refine wl_cons ?_ | refine wl_nil ?_ | refine we_V ?_ | refine we_own ?_ | refine we_tup ?_ | refine wl_lst ?_ | refine wt_of ?_ | refine wt_or ?_ | refine wt_and ?_ | refine wt_not ?_ | refine we_and ?_ | refine we_or ?_ | refine we_not ?_ | refine we_if ?_ | refine we_isN ?_ | refine we_notN ?_ | refine we_chain ?_ | refine wt_yes ?_ | refine wi_L ?_ | refine wi_T ?_ | refine wi_S ?_ | refine wi_R1 ?_ | refine wi_R2 ?_ | refine wi_R3 ?_ | refine wi_E ?_ | refine we_call ?_ | refine we_callF ?_ | refine we_bm ?_ | refine wg_sb ?_ | refine we_m1 ?_ | refine we_rev ?_ | refine wo_add ?_ | refine wo_sub ?_ | refine wo_neg ?_ | refine wo_cmp ?_ | refine wo_eqI ?_ | refine wo_neI ?_ | refine wo_eqS ?_ | refine wo_neS ?_ | refine wo_eqB ?_ | refine wo_neB ?_ | refine wo_lenL ?_ | refine wo_lenT ?_ | refine wo_lenC ?_ | refine wo_max ?_ | refine wo_min ?_ | refine wo_slL ?_ | refine wo_listC ?_ | refine wo_listL ?_ | refine wo_listT ?_ | refine wo_tupT ?_ | refine wo_tupL ?_ | refine wo_intI ?_ | refine wo_intB ?_ | refine wo_strS ?_ | refine wo_inS ?_ | refine wo_ninS ?_) | ((with_reducible apply we_var); rfl) | ((with_reducible apply ws_frz); rfl) | ((with_reducible apply ws_app); rfl) | ((with_reducible apply ws_extend); rfl) | ((with_reducible apply ws_retA); rfl) | ((with_reducible apply ws_frz0); rfl) | ((with_reducible apply wo_isT); rfl; rfl) | (refine ⟨Nat.le_of_ble_eq_true rfl, ?_⟩) | (with_reducible refine ⟨_, rfl, ?_⟩) | (with_reducible refine wg_nm (Nat.le_of_ble_eq_true rfl) ?_) | (refine ⟨⟨Nat.le_of_ble_eq_true rfl, Nat.le_of_ble_eq_true rfl⟩, ?_⟩) | (with_reducible refine Or.inl ⟨_, rfl, ?_⟩) | (with_reducible refine Or.inr ⟨_, rfl, ?_⟩))
      have l0 := hfs.1
      refine ⟨by rw [List.length_map]; omega, ?_⟩
      repeat (first | with_reducible (first | refine ws_seq ?_ | refine nxt_nx ?_ | refine lp_nx ?_ | refine lp_ct ?_ | refine lp_bk ?_ | refine lp_rt ?_ | refine lp_rf ?_ | refine nxt_rt ?_ | refine nxt_rf ?_ | refine nxt_bk ?_ | refine nxt_ct ?_ | refine end_nx ?_ | refine end_rt ?_ | refine end_rf ?_ | refine ws_next ?_ | refine ws_brk ?_ | refine ws_cnt ?_ | refine ws_do ?_ | refine ws_ret ?_ | refine ws_retF ?_ | refine ws_retN ?_ | refine ws_set ?_ | refine ws_acc ?_ | refine ws_par ?_ | refine ws_asg ?_ | refine ws_for ?_ | refine ws_if ?_ | refine we_2 ?_ | refine we_1 ?_ | refine we_n ?_ | refine we_3 ?_ | refine we_c ?_ | refine wo_none ?_ | refine wo_some ?_ | refine wl_cons ?_ | refine wl_nil ?_ | refine we_V ?_ | refine we_own ?_ | refine we_tup ?_ | refine wl_lst ?_ | refine wt_of ?_ | refine wt_or ?_ | refine wt_and ?_ | refine wt_not ?_ | refine we_and ?_ | refine we_or ?_ | refine we_not ?_ | refine we_if ?_ | refine we_isN ?_ | refine we_notN ?_ | refine we_chain ?_ | refine wt_yes ?_ | refine wi_L ?_ | refine wi_T ?_ | refine wi_S ?_ | refine wi_R1 ?_ | refine wi_R2 ?_ | refine wi_R3 ?_ | refine wi_E ?_ | refine we_call ?_ | refine we_callF ?_ | refine we_bm ?_ | refine wg_sb ?_ | refine we_m1 ?_ | refine we_rev ?_ | refine wo_add ?_ | refine wo_sub ?_ | refine wo_neg ?_ | refine wo_cmp ?_ | refine wo_eqI ?_ | refine wo_neI ?_ | refine wo_eqS ?_ | refine wo_neS ?_ | refine wo_eqB ?_ | refine wo_neB ?_ | refine wo_lenL ?_ | refine wo_lenT ?_ | refine wo_lenC ?_ | refine wo_max ?_ | refine wo_min ?_ | refine wo_slL ?_ | refine wo_listC ?_ | refine wo_listL ?_ | refine wo_listT ?_ | refine wo_tupT ?_ | refine wo_tupL ?_ | refine wo_intI ?_ | refine wo_intB ?_ | refine wo_strS ?_ | refine wo_inS ?_ | refine wo_ninS ?_) | ((with_reducible apply we_var); rfl) | ((with_reducible apply ws_frz); rfl) | ((with_reducible apply ws_app); rfl) | ((with_reducible apply ws_extend); rfl) | ((with_reducible apply ws_retA); rfl) | ((with_reducible apply ws_frz0); rfl) | ((with_reducible apply wo_isT); rfl; rfl) | (refine ⟨Nat.le_of_ble_eq_true rfl, ?_⟩) | (with_reducible refine ⟨_, rfl, ?_⟩) | (with_reducible refine wg_nm (Nat.le_of_ble_eq_true rfl) ?_) | (refine ⟨⟨Nat.le_of_ble_eq_true rfl, Nat.le_of_ble_eq_true rfl⟩, ?_⟩) | (with_reducible refine Or.inl ⟨_, rfl, ?_⟩) | (with_reducible refine Or.inr ⟨_, rfl, ?_⟩))
      exact ⟨bx10.box, fs ++ [zs], hfs.add (by omega) hz2, _, _, _, _, _, _, _, _, by rw [List.map_append]; rfl⟩
    · clear bx bx4
      rintro ρ S7 ⟨bx, fs, hfs, f, g, h, i, j, q, r, s, rfl⟩
      rw [rng_len] at hfs
      obtain ⟨q1, q2, q3⟩ := hfs
      have hF : Fs fs 200 := ⟨fun z => (by rw [z] at q1; simp at q1; omega), q2, by omega⟩
      have hF2 := hF.mono (m := 900000) (by omega)
      have hl := packV_len hF (by omega)
      have ho := packV_okS hF
      repeat (first | with_reducible (first | refine ws_seq ?_ | refine nxt_nx ?_ | refine lp_nx ?_ | refine lp_ct ?_ | refine lp_bk ?_ | refine lp_rt ?_ | refine lp_rf ?_ | refine nxt_rt ?_ | refine nxt_rf ?_ | refine nxt_bk ?_ | refine nxt_ct ?_ | refine end_nx ?_ | refine end_rt ?_ | refine end_rf ?_ | refine ws_next ?_ | refine ws_brk ?_ | refine ws_cnt ?_ | refine ws_do ?_ | refine ws_ret ?_ | refine ws_retF ?_ | refine ws_retN ?_ | refine ws_set ?_ | refine ws_acc ?_ | refine ws_par ?_ | refine ws_asg ?_ | refine ws_for ?_ | refine ws_if ?_ | refine we_2 ?_ | refine we_1 ?_ | refine we_n ?_ | refine we_3 ?_ | refine we_c ?_ | refine wo_none ?_ | refine wo_some ?_ | refine wl_cons ?_ | refine wl_nil ?_ | refine we_V ?_ | refine we_own ?_ | refine we_tup ?_ | refine wl_lst ?_ | refine wt_of ?_ | refine wt_or ?_ | refine wt_and ?_ | refine wt_not ?_ | refine we_and ?_ | refine we_or ?_ | refine we_not ?_ | refine we_if ?_ | refine we_isN ?_ | refine we_notN ?_ | refine we_chain ?_ | refine wt_yes ?_ | refine wi_L ?_ | refine wi_T ?_ | refine wi_S ?_ | refine wi_R1 ?_ | refine wi_R2 ?_ | refine wi_R3 ?_ | refine wi_E ?_ | refine we_call ?_ | refine we_callF ?_ | refine we_bm ?_ | refine wg_sb ?_ | refine we_m1 ?_ | refine we_rev ?_ | refine wo_add ?_ | refine wo_sub ?_ | refine wo_neg ?_ | refine wo_cmp ?_ | refine wo_eqI ?_ | refine wo_neI ?_ | refine wo_eqS ?_ | refine wo_neS ?_ | refine wo_eqB ?_ | refine wo_neB ?_ | refine wo_lenL ?_ | refine wo_lenT ?_ | refine wo_lenC ?_ | refine wo_max ?_ | refine wo_min ?_ | refine wo_slL ?_ | refine wo_listC ?_ | refine wo_listL ?_ | refine wo_listT ?_ | refine wo_tupT ?_ | refine wo_tupL ?_ | refine wo_intI ?_ | refine wo_intB ?_ | refine wo_strS ?_ | refine wo_inS ?_ | refine wo_ninS ?_) | ((with_reducible apply we_var); rfl) | ((with_reducible apply ws_frz); rfl) | ((with_reducible apply ws_app); rfl) | ((with_reducible apply ws_extend); rfl) | ((with_reducible apply ws_retA); rfl) | ((with_reducible apply ws_frz0); rfl) | ((with_reducible apply wo_isT); rfl; rfl) | (refine ⟨Nat.le_of_ble_eq_true rfl, ?_⟩) | (with_reducible refine ⟨_, rfl, ?_⟩) | (with_reducible refine wg_nm (Nat.le_of_ble_eq_true rfl) ?_) | (refine ⟨⟨Nat.le_of_ble_eq_true rfl, Nat.le_of_ble_eq_true rfl⟩, ?_⟩) | (with_reducible refine Or.inl ⟨_, rfl, ?_⟩) | (with_reducible refine Or.inr ⟨_, rfl, ?_⟩))
      refine (packed_ok (fs := fs) rfl hF2).mono fun o S8 e => ?_
      obtain ⟨rfl, rfl⟩ := e
      repeat (first | with_reducible (first | refine ws_seq ?_ | refine nxt_nx ?_ | refine lp_nx ?_ | refine lp_ct ?_ | refine lp_bk ?_ | refine lp_rt ?_ | refine lp_rf ?_ | refine nxt_rt ?_ | refine nxt_rf ?_ | refine nxt_bk ?_ | refine nxt_ct ?_ | refine end_nx ?_ | refine end_rt ?_ | refine end_rf ?_ | refine ws_next ?_ | refine ws_brk ?_ | refine ws_cnt ?_ | refine ws_do ?_ | refine ws_ret ?_ | refine ws_retF ?_ | refine ws_retN ?_ | refine ws_set ?_ | refine ws_acc ?_ | refine ws_par ?_ | refine ws_asg ?_ | refine ws_for ?_ | refine ws_if ?_ | refine we_2 ?_ | refine we_1 ?_ | refine we_n ?_ | refine we_3 ?_ | refine we_c ?_ | refine wo_none ?_ | refine wo_some ?_ | refine wl_cons ?_ | refine wl_nil ?_ | refine we_V ?_ | refine we_own ?_ | refine we_tup ?_ | refine wl_lst ?_ | refine wt_of ?_ | refine wt_or ?_ | refine wt_and ?_ | refine wt_not ?_ | refine we_and ?_ | refine we_or ?_ | refine we_not ?_ | refine we_if ?_ | refine we_isN ?_ | refine we_notN ?_ | refine we_chain ?_ | refine wt_yes ?_ | refine wi_L ?_ | refine wi_T ?_ | refine wi_S ?_ | refine wi_R1 ?_ | refine wi_R2 ?_ | refine wi_R3 ?_ | refine wi_E ?_ | refine we_call ?_ | refine we_callF ?_ | refine we_bm ?_ | refine wg_sb ?_ | refine we_m1 ?_ | refine we_rev ?_ | refine wo_add ?_ | refine wo_sub ?_ | refine wo_neg ?_ | refine wo_cmp ?_ | refine wo_eqI ?_ | refine wo_neI ?_ | refine wo_eqS ?_ | refine wo_neS ?_ | refine wo_eqB ?_ | refine wo_neB ?_ | refine wo_lenL ?_ | refine wo_lenT ?_ | refine wo_lenC ?_ | refine wo_max ?_ | refine wo_min ?_ | refine wo_slL ?_ | refine wo_listC ?_ | refine wo_listL ?_ | refine wo_listT ?_ | refine wo_tupT ?_ | refine wo_tupL ?_ | refine wo_intI ?_ | refine wo_intB ?_ | refine wo_strS ?_ | refine wo_inS ?_ | refine wo_ninS ?_) | ((with_reducible apply we_var); rfl) | ((with_reducible apply ws_frz); rfl) | ((with_reducible apply ws_app); rfl) | ((with_reducible apply ws_extend); rfl) | ((with_reducible apply ws_retA); rfl) | ((with_reducible apply ws_frz0); rfl) | ((with_reducible apply wo_isT); rfl; rfl) | (refine ⟨Nat.le_of_ble_eq_true rfl, ?_⟩) | (with_reducible refine ⟨_, rfl, ?_⟩) | (with_reducible refine wg_nm (Nat.le_of_ble_eq_true rfl) ?_) | (refine ⟨⟨Nat.le_of_ble_eq_true rfl, Nat.le_of_ble_eq_true rfl⟩, ?_⟩) | (with_reducible refine Or.inl ⟨_, rfl, ?_⟩) | (with_reducible refine Or.inr ⟨_, rfl, ?_⟩))
      refine wo_len (by omega) ?_
      repeat (first | with_reducible (first | refine ws_seq ?_ | refine nxt_nx ?_ | refine lp_nx ?_ | refine lp_ct ?_ | refine lp_bk ?_ | refine lp_rt ?_ | refine lp_rf ?_ | refine nxt_rt ?_ | refine nxt_rf ?_ | refine nxt_bk ?_ | refine nxt_ct ?_ | refine end_nx ?_ | refine end_rt ?_ | refine end_rf ?_ | refine ws_next ?_ | refine ws_brk ?_ | refine ws_cnt ?_ | refine ws_do ?_ | refine ws_ret ?_ | refine ws_retF ?_ | refine ws_retN ?_ | refine ws_set ?_ | refine ws_acc ?_ | refine ws_par ?_ | refine ws_asg ?_ | refine ws_for ?_ | refine ws_if ?_ | refine we_2 ?_ | refine we_1 ?_ | refine we_n ?_ | refine we_3 ?_ | refine we_c ?_ | refine wo_none ?_ | refine wo_some ?_ | refine wl_cons ?_ | refine wl_nil ?_ | refine we_V ?_ | refine we_own ?_ | refine we_tup ?_ | refine wl_lst ?_ | refine wt_of ?_ | refine wt_or ?_ | refine wt_and ?_ | refine wt_not ?_ | refine we_and ?_ | refine we_or ?_ | refine we_not ?_ | refine we_if ?_ | refine we_isN ?_ | refine we_notN ?_ | refine we_chain ?_ | refine wt_yes ?_ | refine wi_L ?_ | refine wi_T ?_ | refine wi_S ?_ | refine wi_R1 ?_ | refine wi_R2 ?_ | refine wi_R3 ?_ | refine wi_E ?_ | refine we_call ?_ | refine we_callF ?_ | refine we_bm ?_ | refine wg_sb ?_ | refine we_m1 ?_ | refine we_rev ?_ | refine wo_add ?_ | refine wo_sub ?_ | refine wo_neg ?_ | refine wo_cmp ?_ | refine wo_eqI ?_ | refine wo_neI ?_ | refine wo_eqS ?_ | refine wo_neS ?_ | refine wo_eqB ?_ | refine wo_neB ?_ | refine wo_lenL ?_ | refine wo_lenT ?_ | refine wo_lenC ?_ | refine wo_max ?_ | refine wo_min ?_ | refine wo_slL ?_ | refine wo_listC ?_ | refine wo_listL ?_ | refine wo_listT ?_ | refine wo_tupT ?_ | refine wo_tupL ?_ | refine wo_intI ?_ | refine wo_intB ?_ | refine wo_strS ?_ | refine wo_inS ?_ | refine wo_ninS ?_) | ((with_reducible apply we_var); rfl) | ((with_reducible apply ws_frz); rfl) | ((with_reducible apply ws_app); rfl) | ((with_reducible apply ws_extend); rfl) | ((with_reducible apply ws_retA); rfl) | ((with_reducible apply ws_frz0); rfl) | ((with_reducible apply wo_isT); rfl; rfl) | (refine ⟨Nat.le_of_ble_eq_true rfl, ?_⟩) | (with_reducible refine ⟨_, rfl, ?_⟩) | (with_reducible refine wg_nm (Nat.le_of_ble_eq_true rfl) ?_) | (refine ⟨⟨Nat.le_of_ble_eq_true rfl, Nat.le_of_ble_eq_true rfl⟩, ?_⟩) | (with_reducible refine Or.inl ⟨_, rfl, ?_⟩) | (with_reducible refine Or.inr ⟨_, rfl, ?_⟩))
      refine ⟨by omega, ?_⟩
      have hc : ∀ e, e < (packV fs).length → unpackV ((packV fs).take e) = none := fun e he => unpack_cut hF he
      generalize packV fs = t at hl ho hc ⊢
      refine ws_loop (fun _ ρ S9 => S9 = S8 ∧ ∃ z, ρ = [.val (.scr ns), .val (.ref l), .val (.str sg), .val d, .val (.lst (fs.map .str)), f, g, .val (.str t), z, j, q, r, s]) ⟨rfl, _, rfl⟩ ?_ ?_
      · rintro k3 d3 ρ S9 hk3 ⟨rfl, z, rfl⟩
        obtain ⟨rfl, lt3⟩ := rng_get hk3
        have e0 : (0 : Int) + (k3 : Int) = (k3 : Int) := by omega
        rw [e0]
        repeat (first | with_reducible (first | refine ws_seq ?_ | refine nxt_nx ?_ | refine lp_nx ?_ | refine lp_ct ?_ | refine lp_bk ?_ | refine lp_rt ?_ | refine lp_rf ?_ | refine nxt_rt ?_ | refine nxt_rf ?_ | refine nxt_bk ?_ | refine nxt_ct ?_ | refine end_nx ?_ | refine end_rt ?_ | refine end_rf ?_ | refine ws_next ?_ | refine ws_brk ?_ | refine ws_cnt ?_ | refine ws_do ?_ | refine ws_ret ?_ | refine ws_retF ?_ | refine ws_retN ?_ | refine ws_set ?_ | refine ws_acc ?_ | refine ws_par ?_ | refine ws_asg ?_ | refine ws_for ?_ | refine ws_if ?_ | refine we_2 ?_ | refine we_1 ?_ | refine we_n ?_ | refine we_3 ?_ | refine we_c ?_ | refine wo_none ?_ | refine wo_some ?_ | refine wl_cons ?_ | refine wl_nil ?_ | refine we_V ?_ | refine we_own ?_ | refine we_tup ?_ | refine wl_lst ?_ | refine wt_of ?_ | refine wt_or ?_ | refine wt_and ?_ | refine wt_not ?_ | refine we_and ?_ | refine we_or ?_ | refine we_not ?_ | refine we_if ?_ | refine we_isN ?_ | refine we_notN ?_ | refine we_chain ?_ | refine wt_yes ?_ | refine wi_L ?_ | refine wi_T ?_ | refine wi_S ?_ | refine wi_R1 ?_ | refine wi_R2 ?_ | refine wi_R3 ?_ | refine wi_E ?_ | refine we_call ?_ | refine we_callF ?_ | refine we_bm ?_ | refine wg_sb ?_ | refine we_m1 ?_ | refine we_rev ?_ | refine wo_add ?_ | refine wo_sub ?_ | refine wo_neg ?_ | refine wo_cmp ?_ | refine wo_eqI ?_ | refine wo_neI ?_ | refine wo_eqS ?_ | refine wo_neS ?_ | refine wo_eqB ?_ | refine wo_neB ?_ | refine wo_lenL ?_ | refine wo_lenT ?_ | refine wo_lenC ?_ | refine wo_max ?_ | refine wo_min ?_ | refine wo_slL ?_ | refine wo_listC ?_ | refine wo_listL ?_ | refine wo_listT ?_ | refine wo_tupT ?_ | refine wo_tupL ?_ | refine wo_intI ?_ | refine wo_intB ?_ | refine wo_strS ?_ | refine wo_inS ?_ | refine wo_ninS ?_) | ((with_reducible apply we_var); rfl) | ((with_reducible apply ws_frz); rfl) | ((with_reducible apply ws_app); rfl) | ((with_reducible apply ws_extend); rfl) | ((with_reducible apply ws_retA); rfl) | ((with_reducible apply ws_frz0); rfl) | ((with_reducible apply wo_isT); rfl; rfl) | (refine ⟨Nat.le_of_ble_eq_true rfl, ?_⟩) | (with_reducible refine ⟨_, rfl, ?_⟩) | (with_reducible refine wg_nm (Nat.le_of_ble_eq_true rfl) ?_) | (refine ⟨⟨Nat.le_of_ble_eq_true rfl, Nat.le_of_ble_eq_true rfl⟩, ?_⟩) | (with_reducible refine Or.inl ⟨_, rfl, ?_⟩) | (with_reducible refine Or.inr ⟨_, rfl, ?_⟩))
        refine wo_slS (by omega) ?_
        rw [cut_lo]
        repeat (first | with_reducible (first | refine ws_seq ?_ | refine nxt_nx ?_ | refine lp_nx ?_ | refine lp_ct ?_ | refine lp_bk ?_ | refine lp_rt ?_ | refine lp_rf ?_ | refine nxt_rt ?_ | refine nxt_rf ?_ | refine nxt_bk ?_ | refine nxt_ct ?_ | refine end_nx ?_ | refine end_rt ?_ | refine end_rf ?_ | refine ws_next ?_ | refine ws_brk ?_ | refine ws_cnt ?_ | refine ws_do ?_ | refine ws_ret ?_ | refine ws_retF ?_ | refine ws_retN ?_ | refine ws_set ?_ | refine ws_acc ?_ | refine ws_par ?_ | refine ws_asg ?_ | refine ws_for ?_ | refine ws_if ?_ | refine we_2 ?_ | refine we_1 ?_ | refine we_n ?_ | refine we_3 ?_ | refine we_c ?_ | refine wo_none ?_ | refine wo_some ?_ | refine wl_cons ?_ | refine wl_nil ?_ | refine we_V ?_ | refine we_own ?_ | refine we_tup ?_ | refine wl_lst ?_ | refine wt_of ?_ | refine wt_or ?_ | refine wt_and ?_ | refine wt_not ?_ | refine we_and ?_ | refine we_or ?_ | refine we_not ?_ | refine we_if ?_ | refine we_isN ?_ | refine we_notN ?_ | refine we_chain ?_ | refine wt_yes ?_ | refine wi_L ?_ | refine wi_T ?_ | refine wi_S ?_ | refine wi_R1 ?_ | refine wi_R2 ?_ | refine wi_R3 ?_ | refine wi_E ?_ | refine we_call ?_ | refine we_callF ?_ | refine we_bm ?_ | refine wg_sb ?_ | refine we_m1 ?_ | refine we_rev ?_ | refine wo_add ?_ | refine wo_sub ?_ | refine wo_neg ?_ | refine wo_cmp ?_ | refine wo_eqI ?_ | refine wo_neI ?_ | refine wo_eqS ?_ | refine wo_neS ?_ | refine wo_eqB ?_ | refine wo_neB ?_ | refine wo_lenL ?_ | refine wo_lenT ?_ | refine wo_lenC ?_ | refine wo_max ?_ | refine wo_min ?_ | refine wo_slL ?_ | refine wo_listC ?_ | refine wo_listL ?_ | refine wo_listT ?_ | refine wo_tupT ?_ | refine wo_tupL ?_ | refine wo_intI ?_ | refine wo_intB ?_ | refine wo_strS ?_ | refine wo_inS ?_ | refine wo_ninS ?_) | ((with_reducible apply we_var); rfl) | ((with_reducible apply ws_frz); rfl) | ((with_reducible apply ws_app); rfl) | ((with_reducible apply ws_extend); rfl) | ((with_reducible apply ws_retA); rfl) | ((with_reducible apply ws_frz0); rfl) | ((with_reducible apply wo_isT); rfl; rfl) | (refine ⟨Nat.le_of_ble_eq_true rfl, ?_⟩) | (with_reducible refine ⟨_, rfl, ?_⟩) | (with_reducible refine wg_nm (Nat.le_of_ble_eq_true rfl) ?_) | (refine ⟨⟨Nat.le_of_ble_eq_true rfl, Nat.le_of_ble_eq_true rfl⟩, ?_⟩) | (with_reducible refine Or.inl ⟨_, rfl, ?_⟩) | (with_reducible refine Or.inr ⟨_, rfl, ?_⟩))
        refine (unpacked_ok (by simp; omega) (okS_take ho)).mono fun o S10 e => ?_
        obtain ⟨rfl, rfl⟩ := e
        rw [hc k3 (by omega)]
        refine ⟨true, rfl, ?_⟩
        repeat (first | with_reducible (first | refine ws_seq ?_ | refine nxt_nx ?_ | refine lp_nx ?_ | refine lp_ct ?_ | refine lp_bk ?_ | refine lp_rt ?_ | refine lp_rf ?_ | refine nxt_rt ?_ | refine nxt_rf ?_ | refine nxt_bk ?_ | refine nxt_ct ?_ | refine end_nx ?_ | refine end_rt ?_ | refine end_rf ?_ | refine ws_next ?_ | refine ws_brk ?_ | refine ws_cnt ?_ | refine ws_do ?_ | refine ws_ret ?_ | refine ws_retF ?_ | refine ws_retN ?_ | refine ws_set ?_ | refine ws_acc ?_ | refine ws_par ?_ | refine ws_asg ?_ | refine ws_for ?_ | refine ws_if ?_ | refine we_2 ?_ | refine we_1 ?_ | refine we_n ?_ | refine we_3 ?_ | refine we_c ?_ | refine wo_none ?_ | refine wo_some ?_ | refine wl_cons ?_ | refine wl_nil ?_ | refine we_V ?_ | refine we_own ?_ | refine we_tup ?_ | refine wl_lst ?_ | refine wt_of ?_ | refine wt_or ?_ | refine wt_and ?_ | refine wt_not ?_ | refine we_and ?_ | refine we_or ?_ | refine we_not ?_ | refine we_if ?_ | refine we_isN ?_ | refine we_notN ?_ | refine we_chain ?_ | refine wt_yes ?_ | refine wi_L ?_ | refine wi_T ?_ | refine wi_S ?_ | refine wi_R1 ?_ | refine wi_R2 ?_ | refine wi_R3 ?_ | refine wi_E ?_ | refine we_call ?_ | refine we_callF ?_ | refine we_bm ?_ | refine wg_sb ?_ | refine we_m1 ?_ | refine we_rev ?_ | refine wo_add ?_ | refine wo_sub ?_ | refine wo_neg ?_ | refine wo_cmp ?_ | refine wo_eqI ?_ | refine wo_neI ?_ | refine wo_eqS ?_ | refine wo_neS ?_ | refine wo_eqB ?_ | refine wo_neB ?_ | refine wo_lenL ?_ | refine wo_lenT ?_ | refine wo_lenC ?_ | refine wo_max ?_ | refine wo_min ?_ | refine wo_slL ?_ | refine wo_listC ?_ | refine wo_listL ?_ | refine wo_listT ?_ | refine wo_tupT ?_ | refine wo_tupL ?_ | refine wo_intI ?_ | refine wo_intB ?_ | refine wo_strS ?_ | refine wo_inS ?_ | refine wo_ninS ?_) | ((with_reducible apply we_var); rfl) | ((with_reducible apply ws_frz); rfl) | ((with_reducible apply ws_app); rfl) | ((with_reducible apply ws_extend); rfl) | ((with_reducible apply ws_retA); rfl) | ((with_reducible apply ws_frz0); rfl) | ((with_reducible apply wo_isT); rfl; rfl) | (refine ⟨Nat.le_of_ble_eq_true rfl, ?_⟩) | (with_reducible refine ⟨_, rfl, ?_⟩) | (with_reducible refine wg_nm (Nat.le_of_ble_eq_true rfl) ?_) | (refine ⟨⟨Nat.le_of_ble_eq_true rfl, Nat.le_of_ble_eq_true rfl⟩, ?_⟩) | (with_reducible refine Or.inl ⟨_, rfl, ?_⟩) | (with_reducible refine Or.inr ⟨_, rfl, ?_⟩))
        refine ⟨fun z => (nomatch z), fun _ => ?_⟩
        repeat (first | with_reducible (first | refine ws_seq ?_ | refine nxt_nx ?_ | refine lp_nx ?_ | refine lp_ct ?_ | refine lp_bk ?_ | refine lp_rt ?_ | refine lp_rf ?_ | refine nxt_rt ?_ | refine nxt_rf ?_ | refine nxt_bk ?_ | refine nxt_ct ?_ | refine end_nx ?_ | refine end_rt ?_ | refine end_rf ?_ | refine ws_next ?_ | refine ws_brk ?_ | refine ws_cnt ?_ | refine ws_do ?_ | refine ws_ret ?_ | refine ws_retF ?_ | refine ws_retN ?_ | refine ws_set ?_ | refine ws_acc ?_ | refine ws_par ?_ | refine ws_asg ?_ | refine ws_for ?_ | refine ws_if ?_ | refine we_2 ?_ | refine we_1 ?_ | refine we_n ?_ | refine we_3 ?_ | refine we_c ?_ | refine wo_none ?_ | refine wo_some ?_ | refine wl_cons ?_ | refine wl_nil ?_ | refine we_V ?_ | refine we_own ?_ | refine we_tup ?_ | refine wl_lst ?_ | refine wt_of ?_ | refine wt_or ?_ | refine wt_and ?_ | refine wt_not ?_ | refine we_and ?_ | refine we_or ?_ | refine we_not ?_ | refine we_if ?_ | refine we_isN ?_ | refine we_notN ?_ | refine we_chain ?_ | refine wt_yes ?_ | refine wi_L ?_ | refine wi_T ?_ | refine wi_S ?_ | refine wi_R1 ?_ | refine wi_R2 ?_ | refine wi_R3 ?_ | refine wi_E ?_ | refine we_call ?_ | refine we_callF ?_ | refine we_bm ?_ | refine wg_sb ?_ | refine we_m1 ?_ | refine we_rev ?_ | refine wo_add ?_ | refine wo_sub ?_ | refine wo_neg ?_ | refine wo_cmp ?_ | refine wo_eqI ?_ | refine wo_neI ?_ | refine wo_eqS ?_ | refine wo_neS ?_ | refine wo_eqB ?_ | refine wo_neB ?_ | refine wo_lenL ?_ | refine wo_lenT ?_ | refine wo_lenC ?_ | refine wo_max ?_ | refine wo_min ?_ | refine wo_slL ?_ | refine wo_listC ?_ | refine wo_listL ?_ | refine wo_listT ?_ | refine wo_tupT ?_ | refine wo_tupL ?_ | refine wo_intI ?_ | refine wo_intB ?_ | refine wo_strS ?_ | refine wo_inS ?_ | refine wo_ninS ?_) | ((with_reducible apply we_var); rfl) | ((with_reducible apply ws_frz); rfl) | ((with_reducible apply ws_app); rfl) | ((with_reducible apply ws_extend); rfl) | ((with_reducible apply ws_retA); rfl) | ((with_reducible apply ws_frz0); rfl) | ((with_reducible apply wo_isT); rfl; rfl) | (refine ⟨Nat.le_of_ble_eq_true rfl, ?_⟩) | (with_reducible refine ⟨_, rfl, ?_⟩) | (with_reducible refine wg_nm (Nat.le_of_ble_eq_true rfl) ?_) | (refine ⟨⟨Nat.le_of_ble_eq_true rfl, Nat.le_of_ble_eq_true rfl⟩, ?_⟩) | (with_reducible refine Or.inl ⟨_, rfl, ?_⟩) | (with_reducible refine Or.inr ⟨_, rfl, ?_⟩))
        exact ⟨rfl, _, rfl⟩
      · rintro ρ S9 ⟨rfl, z, rfl⟩
        repeat (first | with_reducible (first | refine ws_seq ?_ | refine nxt_nx ?_ | refine lp_nx ?_ | refine lp_ct ?_ | refine lp_bk ?_ | refine lp_rt ?_ | refine lp_rf ?_ | refine nxt_rt ?_ | refine nxt_rf ?_ | refine nxt_bk ?_ | refine nxt_ct ?_ | refine end_nx ?_ | refine end_rt ?_ | refine end_rf ?_ | refine ws_next ?_ | refine ws_brk ?_ | refine ws_cnt ?_ | refine ws_do ?_ | refine ws_ret ?_ | refine ws_retF ?_ | refine ws_retN ?_ | refine ws_set ?_ | refine ws_acc ?_ | refine ws_par ?_ | refine ws_asg ?_ | refine ws_for ?_ | refine ws_if ?_ | refine we_2 ?_ | refine we_1 ?_ | refine we_n ?_ | refine we_3 ?_ | refine we_c ?_ | refine wo_none ?_ | refine wo_some ?_ | refine wl_cons ?_ | refine wl_nil ?_ | refine we_V ?_ | refine we_own ?_ | refine we_tup ?_ | refine wl_lst ?_ | refine wt_of ?_ | refine wt_or ?_ | refine wt_and ?_ | refine wt_not ?_ | refine we_and ?_ | refine we_or ?_ | refine we_not ?_ | refine we_if ?_ | refine we_isN ?_ | refine we_notN ?_ | refine we_chain ?_ | refine wt_yes ?_ | refine wi_L ?_ | refine wi_T ?_ | refine wi_S ?_ | refine wi_R1 ?_ | refine wi_R2 ?_ | refine wi_R3 ?_ | refine wi_E ?_ | refine we_call ?_ | refine we_callF ?_ | refine we_bm ?_ | refine wg_sb ?_ | refine we_m1 ?_ | refine we_rev ?_ | refine wo_add ?_ | refine wo_sub ?_ | refine wo_neg ?_ | refine wo_cmp ?_ | refine wo_eqI ?_ | refine wo_neI ?_ | refine wo_eqS ?_ | refine wo_neS ?_ | refine wo_eqB ?_ | refine wo_neB ?_ | refine wo_lenL ?_ | refine wo_lenT ?_ | refine wo_lenC ?_ | refine wo_max ?_ | refine wo_min ?_ | refine wo_slL ?_ | refine wo_listC ?_ | refine wo_listL ?_ | refine wo_listT ?_ | refine wo_tupT ?_ | refine wo_tupL ?_ | refine wo_intI ?_ | refine wo_intB ?_ | refine wo_strS ?_ | refine wo_inS ?_ | refine wo_ninS ?_) | ((with_reducible apply we_var); rfl) | ((with_reducible apply ws_frz); rfl) | ((with_reducible apply ws_app); rfl) | ((with_reducible apply ws_extend); rfl) | ((with_reducible apply ws_retA); rfl) | ((with_reducible apply ws_frz0); rfl) | ((with_reducible apply wo_isT); rfl; rfl) | (refine ⟨Nat.le_of_ble_eq_true rfl, ?_⟩) | (with_reducible refine ⟨_, rfl, ?_⟩) | (with_reducible refine wg_nm (Nat.le_of_ble_eq_true rfl) ?_) | (refine ⟨⟨Nat.le_of_ble_eq_true rfl, Nat.le_of_ble_eq_true rfl⟩, ?_⟩) | (with_reducible refine Or.inl ⟨_, rfl, ?_⟩) | (with_reducible refine Or.inr ⟨_, rfl, ?_⟩))
        refine ⟨by decide, ?_⟩
        refine ws_loop (fun _ ρ S10 => Box S10 l m ∧ ∃ y u v, ρ = [.val (.scr ns), .val (.ref l), .val (.str sg), .val d, .val (.lst (fs.map .str)), f, g, .val (.str t), z, y, u, v, s]) ⟨bx, _, _, _, rfl⟩ ?_ ?_
        · clear bx
          rintro k4 d4 ρ S10 hk4 ⟨bx, y, u, v, rfl⟩
          repeat (first | with_reducible (first | refine ws_seq ?_ | refine nxt_nx ?_ | refine lp_nx ?_ | refine lp_ct ?_ | refine lp_bk ?_ | refine lp_rt ?_ | refine lp_rf ?_ | refine nxt_rt ?_ | refine nxt_rf ?_ | refine nxt_bk ?_ | refine nxt_ct ?_ | refine end_nx ?_ | refine end_rt ?_ | refine end_rf ?_ | refine ws_next ?_ | refine ws_brk ?_ | refine ws_cnt ?_ | refine ws_do ?_ | refine ws_ret ?_ | refine ws_retF ?_ | refine ws_retN ?_ | refine ws_set ?_ | refine ws_acc ?_ | refine ws_par ?_ | refine ws_asg ?_ | refine ws_for ?_ | refine ws_if ?_ | refine we_2 ?_ | refine we_1 ?_ | refine we_n ?_ | refine we_3 ?_ | refine we_c ?_ | refine wo_none ?_ | refine wo_some ?_ | refine wl_cons ?_ | refine wl_nil ?_ | refine we_V ?_ | refine we_own ?_ | refine we_tup ?_ | refine wl_lst ?_ | refine wt_of ?_ | refine wt_or ?_ | refine wt_and ?_ | refine wt_not ?_ | refine we_and ?_ | refine we_or ?_ | refine we_not ?_ | refine we_if ?_ | refine we_isN ?_ | refine we_notN ?_ | refine we_chain ?_ | refine wt_yes ?_ | refine wi_L ?_ | refine wi_T ?_ | refine wi_S ?_ | refine wi_R1 ?_ | refine wi_R2 ?_ | refine wi_R3 ?_ | refine wi_E ?_ | refine we_call ?_ | refine we_callF ?_ | refine we_bm ?_ | refine wg_sb ?_ | refine we_m1 ?_ | refine we_rev ?_ | refine wo_add ?_ | refine wo_sub ?_ | refine wo_neg ?_ | refine wo_cmp ?_ | refine wo_eqI ?_ | refine wo_neI ?_ | refine wo_eqS ?_ | refine wo_neS ?_ | refine wo_eqB ?_ | refine wo_neB ?_ | refine wo_lenL ?_ | refine wo_lenT ?_ | refine wo_lenC ?_ | refine wo_max ?_ | refine wo_min ?_ | refine wo_slL ?_ | refine wo_listC ?_ | refine wo_listL ?_ | refine wo_listT ?_ | refine wo_tupT ?_ | refine wo_tupL ?_ | refine wo_intI ?_ | refine wo_intB ?_ | refine wo_strS ?_ | refine wo_inS ?_ | refine wo_ninS ?_) | ((with_reducible apply we_var); rfl) | ((with_reducible apply ws_frz); rfl) | ((with_reducible apply ws_app); rfl) | ((with_reducible apply ws_extend); rfl) | ((with_reducible apply ws_retA); rfl) | ((with_reducible apply ws_frz0); rfl) | ((with_reducible apply wo_isT); rfl; rfl) | (refine ⟨Nat.le_of_ble_eq_true rfl, ?_⟩) | (with_reducible refine ⟨_, rfl, ?_⟩) | (with_reducible refine wg_nm (Nat.le_of_ble_eq_true rfl) ?_) | (refine ⟨⟨Nat.le_of_ble_eq_true rfl, Nat.le_of_ble_eq_true rfl⟩, ?_⟩) | (with_reducible refine Or.inl ⟨_, rfl, ?_⟩) | (with_reducible refine Or.inr ⟨_, rfl, ?_⟩))
          refine (draw_nat (n := 2) bx (by omega) (by omega)).mono fun o S11 e => ?_
          obtain ⟨n5, rfl, hn5, bx11⟩ := e
          repeat (first | with_reducible (first | refine ws_seq ?_ | refine nxt_nx ?_ | refine lp_nx ?_ | refine lp_ct ?_ | refine lp_bk ?_ | refine lp_rt ?_ | refine lp_rf ?_ | refine nxt_rt ?_ | refine nxt_rf ?_ | refine nxt_bk ?_ | refine nxt_ct ?_ | refine end_nx ?_ | refine end_rt ?_ | refine end_rf ?_ | refine ws_next ?_ | refine ws_brk ?_ | refine ws_cnt ?_ | refine ws_do ?_ | refine ws_ret ?_ | refine ws_retF ?_ | refine ws_retN ?_ | refine ws_set ?_ | refine ws_acc ?_ | refine ws_par ?_ | refine ws_asg ?_ | refine ws_for ?_ | refine ws_if ?_ | refine we_2 ?_ | refine we_1 ?_ | refine we_n ?_ | refine we_3 ?_ | refine we_c ?_ | refine wo_none ?_ | refine wo_some ?_ | refine wl_cons ?_ | refine wl_nil ?_ | refine we_V ?_ | refine we_own ?_ | refine we_tup ?_ | refine wl_lst ?_ | refine wt_of ?_ | refine wt_or ?_ | refine wt_and ?_ | refine wt_not ?_ | refine we_and ?_ | refine we_or ?_ | refine we_not ?_ | refine we_if ?_ | refine we_isN ?_ | refine we_notN ?_ | refine we_chain ?_ | refine wt_yes ?_ | refine wi_L ?_ | refine wi_T ?_ | refine wi_S ?_ | refine wi_R1 ?_ | refine wi_R2 ?_ | refine wi_R3 ?_ | refine wi_E ?_ | refine we_call ?_ | refine we_callF ?_ | refine we_bm ?_ | refine wg_sb ?_ | refine we_m1 ?_ | refine we_rev ?_ | refine wo_add ?_ | refine wo_sub ?_ | refine wo_neg ?_ | refine wo_cmp ?_ | refine wo_eqI ?_ | refine wo_neI ?_ | refine wo_eqS ?_ | refine wo_neS ?_ | refine wo_eqB ?_ | refine wo_neB ?_ | refine wo_lenL ?_ | refine wo_lenT ?_ | refine wo_lenC ?_ | refine wo_max ?_ | refine wo_min ?_ | refine wo_slL ?_ | refine wo_listC ?_ | refine wo_listL ?_ | refine wo_listT ?_ | refine wo_tupT ?_ | refine wo_tupL ?_ | refine wo_intI ?_ | refine wo_intB ?_ | refine wo_strS ?_ | refine wo_inS ?_ | refine wo_ninS ?_) | ((with_reducible apply we_var); rfl) | ((with_reducible apply ws_frz); rfl) | ((with_reducible apply ws_app); rfl) | ((with_reducible apply ws_extend); rfl) | ((with_reducible apply ws_retA); rfl) | ((with_reducible apply ws_frz0); rfl) | ((with_reducible apply wo_isT); rfl; rfl) | (refine ⟨Nat.le_of_ble_eq_true rfl, ?_⟩) | (with_reducible refine ⟨_, rfl, ?_⟩) | (with_reducible refine wg_nm (Nat.le_of_ble_eq_true rfl) ?_) | (refine ⟨⟨Nat.le_of_ble_eq_true rfl, Nat.le_of_ble_eq_true rfl⟩, ?_⟩) | (with_reducible refine Or.inl ⟨_, rfl, ?_⟩) | (with_reducible refine Or.inr ⟨_, rfl, ?_⟩))
          refine ⟨by omega, ?_⟩
          have e1 : ((1 : Int) + (n5 : Int)).toNat = 1 + n5 := by omega
          refine ws_loop (fun k ρ S12 => Box S12 l m ∧ ∃ w : List Nat, w.length ≤ 300 + 10 * k ∧ okS w ∧ ∃ v, ρ = [.val (.scr ns), .val (.ref l), .val (.str sg), .val d, .val (.lst (fs.map .str)), f, g, .val (.str t), z, .val d4, .val (.str w), v, s]) ⟨bx11.box, t, by omega, ho, _, rfl⟩ ?_ ?_
          · clear bx bx11
            rintro k6 d6 ρ S12 hk6 ⟨bx, w, hw, hw2, v, rfl⟩
            obtain ⟨rfl, lt6⟩ := rng_get hk6
            repeat (first | with_reducible (first | refine ws_seq ?_ | refine nxt_nx ?_ | refine lp_nx ?_ | refine lp_ct ?_ | refine lp_bk ?_ | refine lp_rt ?_ | refine lp_rf ?_ | refine nxt_rt ?_ | refine nxt_rf ?_ | refine nxt_bk ?_ | refine nxt_ct ?_ | refine end_nx ?_ | refine end_rt ?_ | refine end_rf ?_ | refine ws_next ?_ | refine ws_brk ?_ | refine ws_cnt ?_ | refine ws_do ?_ | refine ws_ret ?_ | refine ws_retF ?_ | refine ws_retN ?_ | refine ws_set ?_ | refine ws_acc ?_ | refine ws_par ?_ | refine ws_asg ?_ | refine ws_for ?_ | refine ws_if ?_ | refine we_2 ?_ | refine we_1 ?_ | refine we_n ?_ | refine we_3 ?_ | refine we_c ?_ | refine wo_none ?_ | refine wo_some ?_ | refine wl_cons ?_ | refine wl_nil ?_ | refine we_V ?_ | refine we_own ?_ | refine we_tup ?_ | refine wl_lst ?_ | refine wt_of ?_ | refine wt_or ?_ | refine wt_and ?_ | refine wt_not ?_ | refine we_and ?_ | refine we_or ?_ | refine we_not ?_ | refine we_if ?_ | refine we_isN ?_ | refine we_notN ?_ | refine we_chain ?_ | refine wt_yes ?_ | refine wi_L ?_ | refine wi_T ?_ | refine wi_S ?_ | refine wi_R1 ?_ | refine wi_R2 ?_ | refine wi_R3 ?_ | refine wi_E ?_ | refine we_call ?_ | refine we_callF ?_ | refine we_bm ?_ | refine wg_sb ?_ | refine we_m1 ?_ | refine we_rev ?_ | refine wo_add ?_ | refine wo_sub ?_ | refine wo_neg ?_ | refine wo_cmp ?_ | refine wo_eqI ?_ | refine wo_neI ?_ | refine wo_eqS ?_ | refine wo_neS ?_ | refine wo_eqB ?_ | refine wo_neB ?_ | refine wo_lenL ?_ | refine wo_lenT ?_ | refine wo_lenC ?_ | refine wo_max ?_ | refine wo_min ?_ | refine wo_slL ?_ | refine wo_listC ?_ | refine wo_listL ?_ | refine wo_listT ?_ | refine wo_tupT ?_ | refine wo_tupL ?_ | refine wo_intI ?_ | refine wo_intB ?_ | refine wo_strS ?_ | refine wo_inS ?_ | refine wo_ninS ?_) | ((with_reducible apply we_var); rfl) | ((with_reducible apply ws_frz); rfl) | ((with_reducible apply ws_app); rfl) | ((with_reducible apply ws_extend); rfl) | ((with_reducible apply ws_retA); rfl) | ((with_reducible apply ws_frz0); rfl) | ((with_reducible apply wo_isT); rfl; rfl) | (refine ⟨Nat.le_of_ble_eq_true rfl, ?_⟩) | (with_reducible refine ⟨_, rfl, ?_⟩) | (with_reducible refine wg_nm (Nat.le_of_ble_eq_true rfl) ?_) | (refine ⟨⟨Nat.le_of_ble_eq_true rfl, Nat.le_of_ble_eq_true rfl⟩, ?_⟩) | (with_reducible refine Or.inl ⟨_, rfl, ?_⟩) | (with_reducible refine Or.inr ⟨_, rfl, ?_⟩))
            refine (other_ok bx (by omega) hw2).mono fun o S13 e => ?_
            obtain ⟨x, rfl, hx, hx2, bx13⟩ := e
            repeat (first | with_reducible (first | refine ws_seq ?_ | refine nxt_nx ?_ | refine lp_nx ?_ | refine lp_ct ?_ | refine lp_bk ?_ | refine lp_rt ?_ | refine lp_rf ?_ | refine nxt_rt ?_ | refine nxt_rf ?_ | refine nxt_bk ?_ | refine nxt_ct ?_ | refine end_nx ?_ | refine end_rt ?_ | refine end_rf ?_ | refine ws_next ?_ | refine ws_brk ?_ | refine ws_cnt ?_ | refine ws_do ?_ | refine ws_ret ?_ | refine ws_retF ?_ | refine ws_retN ?_ | refine ws_set ?_ | refine ws_acc ?_ | refine ws_par ?_ | refine ws_asg ?_ | refine ws_for ?_ | refine ws_if ?_ | refine we_2 ?_ | refine we_1 ?_ | refine we_n ?_ | refine we_3 ?_ | refine we_c ?_ | refine wo_none ?_ | refine wo_some ?_ | refine wl_cons ?_ | refine wl_nil ?_ | refine we_V ?_ | refine we_own ?_ | refine we_tup ?_ | refine wl_lst ?_ | refine wt_of ?_ | refine wt_or ?_ | refine wt_and ?_ | refine wt_not ?_ | refine we_and ?_ | refine we_or ?_ | refine we_not ?_ | refine we_if ?_ | refine we_isN ?_ | refine we_notN ?_ | refine we_chain ?_ | refine wt_yes ?_ | refine wi_L ?_ | refine wi_T ?_ | refine wi_S ?_ | refine wi_R1 ?_ | refine wi_R2 ?_ | refine wi_R3 ?_ | refine wi_E ?_ | refine we_call ?_ | refine we_callF ?_ | refine we_bm ?_ | refine wg_sb ?_ | refine we_m1 ?_ | refine we_rev ?_ | refine wo_add ?_ | refine wo_sub ?_ | refine wo_neg ?_ | refine wo_cmp ?_ | refine wo_eqI ?_ | refine wo_neI ?_ | refine wo_eqS ?_ | refine wo_neS ?_ | refine wo_eqB ?_ | refine wo_neB ?_ | refine wo_lenL ?_ | refine wo_lenT ?_ | refine wo_lenC ?_ | refine wo_max ?_ | refine wo_min ?_ | refine wo_slL ?_ | refine wo_listC ?_ | refine wo_listL ?_ | refine wo_listT ?_ | refine wo_tupT ?_ | refine wo_tupL ?_ | refine wo_intI ?_ | refine wo_intB ?_ | refine wo_strS ?_ | refine wo_inS ?_ | refine wo_ninS ?_) | ((with_reducible apply we_var); rfl) | ((with_reducible apply ws_frz); rfl) | ((with_reducible apply ws_app); rfl) | ((with_reducible apply ws_extend); rfl) | ((with_reducible apply ws_retA); rfl) | ((with_reducible apply ws_frz0); rfl) | ((with_reducible apply wo_isT); rfl; rfl) | (refine ⟨Nat.le_of_ble_eq_true rfl, ?_⟩) | (with_reducible refine ⟨_, rfl, ?_⟩) | (with_reducible refine wg_nm (Nat.le_of_ble_eq_true rfl) ?_) | (refine ⟨⟨Nat.le_of_ble_eq_true rfl, Nat.le_of_ble_eq_true rfl⟩, ?_⟩) | (with_reducible refine Or.inl ⟨_, rfl, ?_⟩) | (with_reducible refine Or.inr ⟨_, rfl, ?_⟩))
            exact ⟨bx13.box, x, by omega, hx2, _, rfl⟩
          · clear bx bx11
            rintro ρ S12 ⟨bx, w, hw, hw2, v, rfl⟩
            rw [rng_len] at hw
            refine nxt_nx (ws_if (wt_not (wt_of (both_ok (t := w) (by omega) hw2 rfl ?_))))
            repeat (first | with_reducible (first | refine ws_seq ?_ | refine nxt_nx ?_ | refine lp_nx ?_ | refine lp_ct ?_ | refine lp_bk ?_ | refine lp_rt ?_ | refine lp_rf ?_ | refine nxt_rt ?_ | refine nxt_rf ?_ | refine nxt_bk ?_ | refine nxt_ct ?_ | refine end_nx ?_ | refine end_rt ?_ | refine end_rf ?_ | refine ws_next ?_ | refine ws_brk ?_ | refine ws_cnt ?_ | refine ws_do ?_ | refine ws_ret ?_ | refine ws_retF ?_ | refine ws_retN ?_ | refine ws_set ?_ | refine ws_acc ?_ | refine ws_par ?_ | refine ws_asg ?_ | refine ws_for ?_ | refine ws_if ?_ | refine we_2 ?_ | refine we_1 ?_ | refine we_n ?_ | refine we_3 ?_ | refine we_c ?_ | refine wo_none ?_ | refine wo_some ?_ | refine wl_cons ?_ | refine wl_nil ?_ | refine we_V ?_ | refine we_own ?_ | refine we_tup ?_ | refine wl_lst ?_ | refine wt_of ?_ | refine wt_or ?_ | refine wt_and ?_ | refine wt_not ?_ | refine we_and ?_ | refine we_or ?_ | refine we_not ?_ | refine we_if ?_ | refine we_isN ?_ | refine we_notN ?_ | refine we_chain ?_ | refine wt_yes ?_ | refine wi_L ?_ | refine wi_T ?_ | refine wi_S ?_ | refine wi_R1 ?_ | refine wi_R2 ?_ | refine wi_R3 ?_ | refine wi_E ?_ | refine we_call ?_ | refine we_callF ?_ | refine we_bm ?_ | refine wg_sb ?_ | refine we_m1 ?_ | refine we_rev ?_ | refine wo_add ?_ | refine wo_sub ?_ | refine wo_neg ?_ | refine wo_cmp ?_ | refine wo_eqI ?_ | refine wo_neI ?_ | refine wo_eqS ?_ | refine wo_neS ?_ | refine wo_eqB ?_ | refine wo_neB ?_ | refine wo_lenL ?_ | refine wo_lenT ?_ | refine wo_lenC ?_ | refine wo_max ?_ | refine wo_min ?_ | refine wo_slL ?_ | refine wo_listC ?_ | refine wo_listL ?_ | refine wo_listT ?_ | refine wo_tupT ?_ | refine wo_tupL ?_ | refine wo_intI ?_ | refine wo_intB ?_ | refine wo_strS ?_ | refine wo_inS ?_ | refine wo_ninS ?_) | ((with_reducible apply we_var); rfl) | ((with_reducible apply ws_frz); rfl) | ((with_reducible apply ws_app); rfl) | ((with_reducible apply ws_extend); rfl) | ((with_reducible apply ws_retA); rfl) | ((with_reducible apply ws_frz0); rfl) | ((with_reducible apply wo_isT); rfl; rfl) | (refine ⟨Nat.le_of_ble_eq_true rfl, ?_⟩) | (with_reducible refine ⟨_, rfl, ?_⟩) | (with_reducible refine wg_nm (Nat.le_of_ble_eq_true rfl) ?_) | (refine ⟨⟨Nat.le_of_ble_eq_true rfl, Nat.le_of_ble_eq_true rfl⟩, ?_⟩) | (with_reducible refine Or.inl ⟨_, rfl, ?_⟩) | (with_reducible refine Or.inr ⟨_, rfl, ?_⟩))
            refine ⟨fun z => (nomatch z), fun _ => ?_⟩
            repeat (first | with_reducible (first | refine ws_seq ?_ | refine nxt_nx ?_ | refine lp_nx ?_ | refine lp_ct ?_ | refine lp_bk ?_ | refine lp_rt ?_ | refine lp_rf ?_ | refine nxt_rt ?_ | refine nxt_rf ?_ | refine nxt_bk ?_ | refine nxt_ct ?_ | refine end_nx ?_ | refine end_rt ?_ | refine end_rf ?_ | refine ws_next ?_ | refine ws_brk ?_ | refine ws_cnt ?_ | refine ws_do ?_ | refine ws_ret ?_ | refine ws_retF ?_ | refine ws_retN ?_ | refine ws_set ?_ | refine ws_acc ?_ | refine ws_par ?_ | refine ws_asg ?_ | refine ws_for ?_ | refine ws_if ?_ | refine we_2 ?_ | refine we_1 ?_ | refine we_n ?_ | refine we_3 ?_ | refine we_c ?_ | refine wo_none ?_ | refine wo_some ?_ | refine wl_cons ?_ | refine wl_nil ?_ | refine we_V ?_ | refine we_own ?_ | refine we_tup ?_ | refine wl_lst ?_ | refine wt_of ?_ | refine wt_or ?_ | refine wt_and ?_ | refine wt_not ?_ | refine we_and ?_ | refine we_or ?_ | refine we_not ?_ | refine we_if ?_ | refine we_isN ?_ | refine we_notN ?_ | refine we_chain ?_ | refine wt_yes ?_ | refine wi_L ?_ | refine wi_T ?_ | refine wi_S ?_ | refine wi_R1 ?_ | refine wi_R2 ?_ | refine wi_R3 ?_ | refine wi_E ?_ | refine we_call ?_ | refine we_callF ?_ | refine we_bm ?_ | refine wg_sb ?_ | refine we_m1 ?_ | refine we_rev ?_ | refine wo_add ?_ | refine wo_sub ?_ | refine wo_neg ?_ | refine wo_cmp ?_ | refine wo_eqI ?_ | refine wo_neI ?_ | refine wo_eqS ?_ | refine wo_neS ?_ | refine wo_eqB ?_ | refine wo_neB ?_ | refine wo_lenL ?_ | refine wo_lenT ?_ | refine wo_lenC ?_ | refine wo_max ?_ | refine wo_min ?_ | refine wo_slL ?_ | refine wo_listC ?_ | refine wo_listL ?_ | refine wo_listT ?_ | refine wo_tupT ?_ | refine wo_tupL ?_ | refine wo_intI ?_ | refine wo_intB ?_ | refine wo_strS ?_ | refine wo_inS ?_ | refine wo_ninS ?_) | ((with_reducible apply we_var); rfl) | ((with_reducible apply ws_frz); rfl) | ((with_reducible apply ws_app); rfl) | ((with_reducible apply ws_extend); rfl) | ((with_reducible apply ws_retA); rfl) | ((with_reducible apply ws_frz0); rfl) | ((with_reducible apply wo_isT); rfl; rfl) | (refine ⟨Nat.le_of_ble_eq_true rfl, ?_⟩) | (with_reducible refine ⟨_, rfl, ?_⟩) | (with_reducible refine wg_nm (Nat.le_of_ble_eq_true rfl) ?_) | (refine ⟨⟨Nat.le_of_ble_eq_true rfl, Nat.le_of_ble_eq_true rfl⟩, ?_⟩) | (with_reducible refine Or.inl ⟨_, rfl, ?_⟩) | (with_reducible refine Or.inr ⟨_, rfl, ?_⟩))
            exact ⟨bx, _, _, _, rfl⟩
        · rintro ρ S10 ⟨bx, y, u, v, rfl⟩
          exact ⟨bx, _, _, _, _, _, _, _, _, _, _, rfl⟩
  · rintro ρ S2 ⟨_, a, b, c, d, e, f, g, h, i, j, rfl⟩
    repeat (first | with_reducible (first | refine ws_seq ?_ | refine nxt_nx ?_ | refine lp_nx ?_ | refine lp_ct ?_ | refine lp_bk ?_ | refine lp_rt ?_ | refine lp_rf ?_ | refine nxt_rt ?_ | refine nxt_rf ?_ | refine nxt_bk ?_ | refine nxt_ct ?_ | refine end_nx ?_ | refine end_rt ?_ | refine end_rf ?_ | refine ws_next ?_ | refine ws_brk ?_ | refine ws_cnt ?_ | refine ws_do ?_ | refine ws_ret ?_ | refine ws_retF ?_ | refine ws_retN ?_ | refine ws_set ?_ | refine ws_acc ?_ | refine ws_par ?_ | refine ws_asg ?_ | refine ws_for ?_ | refine ws_if ?_ | refine we_2 ?_ | refine we_1 ?_ | refine we_n ?_ | refine we_3 ?_ | refine we_c ?_ | refine wo_none ?_ | refine wo_some ?_ | refine wl_cons ?_ | refine wl_nil ?_ | refine we_V ?_ | refine we_own ?_ | refine we_tup ?_ | refine wl_lst ?_ | refine wt_of ?_ | refine wt_or ?_ | refine wt_and ?_ | refine wt_not ?_ | refine we_and ?_ | refine we_or ?_ | refine we_not ?_ | refine we_if ?_ | refine we_isN ?_ | refine we_notN ?_ | refine we_chain ?_ | refine wt_yes ?_ | refine wi_L ?_ | refine wi_T ?_ | refine wi_S ?_ | refine wi_R1 ?_ | refine wi_R2 ?_ | refine wi_R3 ?_ | refine wi_E ?_ | refine we_call ?_ | refine we_callF ?_ | refine we_bm ?_ | refine wg_sb ?_ | refine we_m1 ?_ | refine we_rev ?_ | refine wo_add ?_ | refine wo_sub ?_ | refine wo_neg ?_ | refine wo_cmp ?_ | refine wo_eqI ?_ | refine wo_neI ?_ | refine wo_eqS ?_ | refine wo_neS ?_ | refine wo_eqB ?_ | refine wo_neB ?_ | refine wo_lenL ?_ | refine wo_lenT ?_ | refine wo_lenC ?_ | refine wo_max ?_ | refine wo_min ?_ | refine wo_slL ?_ | refine wo_listC ?_ | refine wo_listL ?_ | refine wo_listT ?_ | refine wo_tupT ?_ | refine wo_tupL ?_ | refine wo_intI ?_ | refine wo_intB ?_ | refine wo_strS ?_ | refine wo_inS ?_ | refine wo_ninS ?_) | ((with_reducible apply we_var); rfl) | ((with_reducible apply ws_frz); rfl) | ((with_reducible apply ws_app); rfl) | ((with_reducible apply ws_extend); rfl) | ((with_reducible apply ws_retA); rfl) | ((with_reducible apply ws_frz0); rfl) | ((with_reducible apply wo_isT); rfl; rfl) | (refine ⟨Nat.le_of_ble_eq_true rfl, ?_⟩) | (with_reducible refine ⟨_, rfl, ?_⟩) | (with_reducible refine wg_nm (Nat.le_of_ble_eq_true rfl) ?_) | (refine ⟨⟨Nat.le_of_ble_eq_true rfl, Nat.le_of_ble_eq_true rfl⟩, ?_⟩) | (with_reducible refine Or.inl ⟨_, rfl, ?_⟩) | (with_reducible refine Or.inr ⟨_, rfl, ?_⟩))
    refine ws_loop (all := some12.map .str) (fun _ ρ S3 => S3 = S2 ∧ ∃ y, ρ = [.val (.scr ns), .val (.ref l), .val (.str sg), a, b, c, d, e, f, g, y, i, .val (.lst (some12.map .str))]) ⟨rfl, _, rfl⟩ ?_ ?_
    · rintro k7 d7 ρ S3 hk7 ⟨rfl, y, rfl⟩
      obtain ⟨z, hz, rfl⟩ := map_get hk7
      obtain ⟨h1, h2⟩ := some12_ok z (List.mem_of_getElem? hz)
      refine wg_nm (Nat.le_of_ble_eq_true rfl) ?_
      refine ws_if (wt_not (wt_of (both_ok (t := z) (by omega) h2 rfl ?_)))
      repeat (first | with_reducible (first | refine ws_seq ?_ | refine nxt_nx ?_ | refine lp_nx ?_ | refine lp_ct ?_ | refine lp_bk ?_ | refine lp_rt ?_ | refine lp_rf ?_ | refine nxt_rt ?_ | refine nxt_rf ?_ | refine nxt_bk ?_ | refine nxt_ct ?_ | refine end_nx ?_ | refine end_rt ?_ | refine end_rf ?_ | refine ws_next ?_ | refine ws_brk ?_ | refine ws_cnt ?_ | refine ws_do ?_ | refine ws_ret ?_ | refine ws_retF ?_ | refine ws_retN ?_ | refine ws_set ?_ | refine ws_acc ?_ | refine ws_par ?_ | refine ws_asg ?_ | refine ws_for ?_ | refine ws_if ?_ | refine we_2 ?_ | refine we_1 ?_ | refine we_n ?_ | refine we_3 ?_ | refine we_c ?_ | refine wo_none ?_ | refine wo_some ?_ | refine wl_cons ?_ | refine wl_nil ?_ | refine we_V ?_ | refine we_own ?_ | refine we_tup ?_ | refine wl_lst ?_ | refine wt_of ?_ | refine wt_or ?_ | refine wt_and ?_ | refine wt_not ?_ | refine we_and ?_ | refine we_or ?_ | refine we_not ?_ | refine we_if ?_ | refine we_isN ?_ | refine we_notN ?_ | refine we_chain ?_ | refine wt_yes ?_ | refine wi_L ?_ | refine wi_T ?_ | refine wi_S ?_ | refine wi_R1 ?_ | refine wi_R2 ?_ | refine wi_R3 ?_ | refine wi_E ?_ | refine we_call ?_ | refine we_callF ?_ | refine we_bm ?_ | refine wg_sb ?_ | refine we_m1 ?_ | refine we_rev ?_ | refine wo_add ?_ | refine wo_sub ?_ | refine wo_neg ?_ | refine wo_cmp ?_ | refine wo_eqI ?_ | refine wo_neI ?_ | refine wo_eqS ?_ | refine wo_neS ?_ | refine wo_eqB ?_ | refine wo_neB ?_ | refine wo_lenL ?_ | refine wo_lenT ?_ | refine wo_lenC ?_ | refine wo_max ?_ | refine wo_min ?_ | refine wo_slL ?_ | refine wo_listC ?_ | refine wo_listL ?_ | refine wo_listT ?_ | refine wo_tupT ?_ | refine wo_tupL ?_ | refine wo_intI ?_ | refine wo_intB ?_ | refine wo_strS ?_ | refine wo_inS ?_ | refine wo_ninS ?_) | ((with_reducible apply we_var); rfl) | ((with_reducible apply ws_frz); rfl) | ((with_reducible apply ws_app); rfl) | ((with_reducible apply ws_extend); rfl) | ((with_reducible apply ws_retA); rfl) | ((with_reducible apply ws_frz0); rfl) | ((with_reducible apply wo_isT); rfl; rfl) | (refine ⟨Nat.le_of_ble_eq_true rfl, ?_⟩) | (with_reducible refine ⟨_, rfl, ?_⟩) | (with_reducible refine wg_nm (Nat.le_of_ble_eq_true rfl) ?_) | (refine ⟨⟨Nat.le_of_ble_eq_true rfl, Nat.le_of_ble_eq_true rfl⟩, ?_⟩) | (with_reducible refine Or.inl ⟨_, rfl, ?_⟩) | (with_reducible refine Or.inr ⟨_, rfl, ?_⟩))
      refine ⟨fun z => (nomatch z), fun _ => ?_⟩
      repeat (first | with_reducible (first | refine ws_seq ?_ | refine nxt_nx ?_ | refine lp_nx ?_ | refine lp_ct ?_ | refine lp_bk ?_ | refine lp_rt ?_ | refine lp_rf ?_ | refine nxt_rt ?_ | refine nxt_rf ?_ | refine nxt_bk ?_ | refine nxt_ct ?_ | refine end_nx ?_ | refine end_rt ?_ | refine end_rf ?_ | refine ws_next ?_ | refine ws_brk ?_ | refine ws_cnt ?_ | refine ws_do ?_ | refine ws_ret ?_ | refine ws_retF ?_ | refine ws_retN ?_ | refine ws_set ?_ | refine ws_acc ?_ | refine ws_par ?_ | refine ws_asg ?_ | refine ws_for ?_ | refine ws_if ?_ | refine we_2 ?_ | refine we_1 ?_ | refine we_n ?_ | refine we_3 ?_ | refine we_c ?_ | refine wo_none ?_ | refine wo_some ?_ | refine wl_cons ?_ | refine wl_nil ?_ | refine we_V ?_ | refine we_own ?_ | refine we_tup ?_ | refine wl_lst ?_ | refine wt_of ?_ | refine wt_or ?_ | refine wt_and ?_ | refine wt_not ?_ | refine we_and ?_ | refine we_or ?_ | refine we_not ?_ | refine we_if ?_ | refine we_isN ?_ | refine we_notN ?_ | refine we_chain ?_ | refine wt_yes ?_ | refine wi_L ?_ | refine wi_T ?_ | refine wi_S ?_ | refine wi_R1 ?_ | refine wi_R2 ?_ | refine wi_R3 ?_ | refine wi_E ?_ | refine we_call ?_ | refine we_callF ?_ | refine we_bm ?_ | refine wg_sb ?_ | refine we_m1 ?_ | refine we_rev ?_ | refine wo_add ?_ | refine wo_sub ?_ | refine wo_neg ?_ | refine wo_cmp ?_ | refine wo_eqI ?_ | refine wo_neI ?_ | refine wo_eqS ?_ | refine wo_neS ?_ | refine wo_eqB ?_ | refine wo_neB ?_ | refine wo_lenL ?_ | refine wo_lenT ?_ | refine wo_lenC ?_ | refine wo_max ?_ | refine wo_min ?_ | refine wo_slL ?_ | refine wo_listC ?_ | refine wo_listL ?_ | refine wo_listT ?_ | refine wo_tupT ?_ | refine wo_tupL ?_ | refine wo_intI ?_ | refine wo_intB ?_ | refine wo_strS ?_ | refine wo_inS ?_ | refine wo_ninS ?_) | ((with_reducible apply we_var); rfl) | ((with_reducible apply ws_frz); rfl) | ((with_reducible apply ws_app); rfl) | ((with_reducible apply ws_extend); rfl) | ((with_reducible apply ws_retA); rfl) | ((with_reducible apply ws_frz0); rfl) | ((with_reducible apply wo_isT); rfl; rfl) | (refine ⟨Nat.le_of_ble_eq_true rfl, ?_⟩) | (with_reducible refine ⟨_, rfl, ?_⟩) | (with_reducible refine wg_nm (Nat.le_of_ble_eq_true rfl) ?_) | (refine ⟨⟨Nat.le_of_ble_eq_true rfl, Nat.le_of_ble_eq_true rfl⟩, ?_⟩) | (with_reducible refine Or.inl ⟨_, rfl, ?_⟩) | (with_reducible refine Or.inr ⟨_, rfl, ?_⟩))
      exact ⟨rfl, _, rfl⟩
    · rintro ρ S3 ⟨rfl, y, rfl⟩
      repeat (first | with_reducible (first | refine ws_seq ?_ | refine nxt_nx ?_ | refine lp_nx ?_ | refine lp_ct ?_ | refine lp_bk ?_ | refine lp_rt ?_ | refine lp_rf ?_ | refine nxt_rt ?_ | refine nxt_rf ?_ | refine nxt_bk ?_ | refine nxt_ct ?_ | refine end_nx ?_ | refine end_rt ?_ | refine end_rf ?_ | refine ws_next ?_ | refine ws_brk ?_ | refine ws_cnt ?_ | refine ws_do ?_ | refine ws_ret ?_ | refine ws_retF ?_ | refine ws_retN ?_ | refine ws_set ?_ | refine ws_acc ?_ | refine ws_par ?_ | refine ws_asg ?_ | refine ws_for ?_ | refine ws_if ?_ | refine we_2 ?_ | refine we_1 ?_ | refine we_n ?_ | refine we_3 ?_ | refine we_c ?_ | refine wo_none ?_ | refine wo_some ?_ | refine wl_cons ?_ | refine wl_nil ?_ | refine we_V ?_ | refine we_own ?_ | refine we_tup ?_ | refine wl_lst ?_ | refine wt_of ?_ | refine wt_or ?_ | refine wt_and ?_ | refine wt_not ?_ | refine we_and ?_ | refine we_or ?_ | refine we_not ?_ | refine we_if ?_ | refine we_isN ?_ | refine we_notN ?_ | refine we_chain ?_ | refine wt_yes ?_ | refine wi_L ?_ | refine wi_T ?_ | refine wi_S ?_ | refine wi_R1 ?_ | refine wi_R2 ?_ | refine wi_R3 ?_ | refine wi_E ?_ | refine we_call ?_ | refine we_callF ?_ | refine we_bm ?_ | refine wg_sb ?_ | refine we_m1 ?_ | refine we_rev ?_ | refine wo_add ?_ | refine wo_sub ?_ | refine wo_neg ?_ | refine wo_cmp ?_ | refine wo_eqI ?_ | refine wo_neI ?_ | refine wo_eqS ?_ | refine wo_neS ?_ | refine wo_eqB ?_ | refine wo_neB ?_ | refine wo_lenL ?_ | refine wo_lenT ?_ | refine wo_lenC ?_ | refine wo_max ?_ | refine wo_min ?_ | refine wo_slL ?_ | refine wo_listC ?_ | refine wo_listL ?_ | refine wo_listT ?_ | refine wo_tupT ?_ | refine wo_tupL ?_ | refine wo_intI ?_ | refine wo_intB ?_ | refine wo_strS ?_ | refine wo_inS ?_ | refine wo_ninS ?_) | ((with_reducible apply we_var); rfl) | ((with_reducible apply ws_frz); rfl) | ((with_reducible apply ws_app); rfl) | ((with_reducible apply ws_extend); rfl) | ((with_reducible apply ws_retA); rfl) | ((with_reducible apply ws_frz0); rfl) | ((with_reducible apply wo_isT); rfl; rfl) | (refine ⟨Nat.le_of_ble_eq_true rfl, ?_⟩) | (with_reducible refine ⟨_, rfl, ?_⟩) | (with_reducible refine wg_nm (Nat.le_of_ble_eq_true rfl) ?_) | (refine ⟨⟨Nat.le_of_ble_eq_true rfl, Nat.le_of_ble_eq_true rfl⟩, ?_⟩) | (with_reducible refine Or.inl ⟨_, rfl, ?_⟩) | (with_reducible refine Or.inr ⟨_, rfl, ?_⟩))
      trivial
end K06

set_option maxRecDepth 100000
set_option maxHeartbeats 4000000
namespace K06
open PySem PySem.Spec PyProof.Rows L2 AH TL
def top (i : Nat) : Stmt := PySem.Challenge.pw_attachhall_k06_texts_that_are_no_letter.main.body.getD i (.Pass ⟨0, 0, 0, 0⟩)
abbrev FnP (K : PySem.W.Frag) (x q : Str) (st : Stmt) (f : Addr) (fd : FuncData) : Prop := FunD K x q (defArgs st) (defBody st) (defScope st) [] [] f fd
abbrev s_sum_of : Stmt := top 12
abbrev N_sum_of : List Str := ["body", "found", "sign"]
theorem sc_sum_of : FnScope N_sum_of ["body"] (defScope s_sum_of) := ⟨rfl, rfl, rfl, by decide +kernel, rfl, by decide +kernel, by decide +kernel⟩
abbrev s_packed : Stmt := top 13
abbrev N_packed : List Str := ["fields", "sign", "body"]
theorem sc_packed : FnScope N_packed ["fields"] (defScope s_packed) := ⟨rfl, rfl, rfl, by decide +kernel, rfl, by decide +kernel, by decide +kernel⟩
abbrev s_number_of : Stmt := top 14
abbrev N_number_of : List Str := ["word", "sign"]
theorem sc_number_of : FnScope N_number_of ["word"] (defScope s_number_of) := ⟨rfl, rfl, rfl, by decide +kernel, rfl, by decide +kernel, by decide +kernel⟩
abbrev s_unpacked : Stmt := top 15
abbrev N_unpacked : List Str := ["text", "parts", "body", "sign"]
theorem sc_unpacked : FnScope N_unpacked ["text"] (defScope s_unpacked) := ⟨rfl, rfl, rfl, by decide +kernel, rfl, by decide +kernel, by decide +kernel⟩
abbrev s__law_begun : Stmt := top 17
abbrev N__law_begun : List Str := ["_law_script", "_law_stirred", "_law_cell"]
theorem sc__law_begun : FnScope N__law_begun ["_law_script"] (defScope s__law_begun) := ⟨rfl, rfl, rfl, by decide +kernel, rfl, by decide +kernel, by decide +kernel⟩
abbrev s__law_take : Stmt := top 18
abbrev N__law_take : List Str := ["_law_box", "_law_many", "_law_number"]
theorem sc__law_take : FnScope N__law_take ["_law_box", "_law_many"] (defScope s__law_take) := ⟨rfl, rfl, rfl, by decide +kernel, rfl, by decide +kernel, by decide +kernel⟩
abbrev s__law_alike : Stmt := top 19
abbrev N__law_alike : List Str := ["_law_found", "_law_due", "_law_k"]
theorem sc__law_alike : FnScope N__law_alike ["_law_found", "_law_due"] (defScope s__law_alike) := ⟨rfl, rfl, rfl, by decide +kernel, rfl, by decide +kernel, by decide +kernel⟩
abbrev s__law_packed : Stmt := top 20
abbrev N__law_packed : List Str := ["_law_fields", "_law_every", "_law_body", "_law_found", "_law_sign"]
theorem sc__law_packed : FnScope N__law_packed ["_law_fields"] (defScope s__law_packed) := ⟨rfl, rfl, rfl, by decide +kernel, rfl, by decide +kernel, by decide +kernel⟩
abbrev s__law_unpacked : Stmt := top 21
abbrev N__law_unpacked : List Str := ["_law_text", "_law_every", "_law_body", "_law_sign", "_law_fields"]
theorem sc__law_unpacked : FnScope N__law_unpacked ["_law_text"] (defScope s__law_unpacked) := ⟨rfl, rfl, rfl, by decide +kernel, rfl, by decide +kernel, by decide +kernel⟩
abbrev s__law_otherwise : Stmt := top 22
abbrev N__law_otherwise : List Str := ["_law_box", "_law_text", "_law_every", "_law_place", "_law_way", "_law_sign", "_law_end"]
theorem sc__law_otherwise : FnScope N__law_otherwise ["_law_box", "_law_text"] (defScope s__law_otherwise) := ⟨rfl, rfl, rfl, by decide +kernel, rfl, by decide +kernel, by decide +kernel⟩
abbrev s_law : Stmt := top 23
abbrev N_law : List Str := ["_law_script", "_law_box", "_law_every", "_law_turn", "_law_fields", "_law_k", "_law_j", "_law_text", "_law_end", "_law_again", "_law_odd", "_law_change", "_law_some"]
theorem sc_law : FnScope N_law ["_law_script"] (defScope s_law) := ⟨rfl, rfl, rfl, by decide +kernel, rfl, by decide +kernel, by decide +kernel⟩
structure Tx (K : PySem.W.Frag) (mg : Str → Option Value) where
  k_BETWEEN : ∃ t, mg "BETWEEN" = some (.str ("|" : Str) t)
  k_CLOSE : ∃ t, mg "CLOSE" = some (.str ("!" : Str) t)
  k_FIGURES : ∃ t, mg "FIGURES" = some (.str ("0123456789" : Str) t)
  k_MOST_FIGURES : ∃ t, mg "MOST_FIGURES" = some (.int 6 t)
  k_POINT : ∃ t, mg "POINT" = some (.str ("." : Str) t)
  k_RING : ∃ t, mg "RING" = some (.int 9973 t)
  k_SIGNS : ∃ t, mg "SIGNS" = some (.str ("abcdefghijklmnopqrstuvwxyz0123456789 >?<;" : Str) t)
  n_bool : mg "bool" = none
  n_int : mg "int" = none
  n_isinstance : mg "isinstance" = none
  n_len : mg "len" = none
  n_list : mg "list" = none
  n_range : mg "range" = none
  n_str : mg "str" = none
  n_tuple : mg "tuple" = none
  a_sum_of : Addr
  d_sum_of : FuncData
  F_sum_of : FnP K "sum_of" "sum_of" s_sum_of a_sum_of d_sum_of
  g_sum_of : mg "sum_of" = some (.ref a_sum_of)
  a_packed : Addr
  d_packed : FuncData
  F_packed : FnP K "packed" "packed" s_packed a_packed d_packed
  g_packed : mg "packed" = some (.ref a_packed)
  a_number_of : Addr
  d_number_of : FuncData
  F_number_of : FnP K "number_of" "number_of" s_number_of a_number_of d_number_of
  g_number_of : mg "number_of" = some (.ref a_number_of)
  a_unpacked : Addr
  d_unpacked : FuncData
  F_unpacked : FnP K "unpacked" "unpacked" s_unpacked a_unpacked d_unpacked
  g_unpacked : mg "unpacked" = some (.ref a_unpacked)
  a__law_begun : Addr
  d__law_begun : FuncData
  F__law_begun : FnP K "_law_begun" "_law_begun" s__law_begun a__law_begun d__law_begun
  g__law_begun : mg "_law_begun" = some (.ref a__law_begun)
  a__law_take : Addr
  d__law_take : FuncData
  F__law_take : FnP K "_law_take" "_law_take" s__law_take a__law_take d__law_take
  g__law_take : mg "_law_take" = some (.ref a__law_take)
  a__law_alike : Addr
  d__law_alike : FuncData
  F__law_alike : FnP K "_law_alike" "_law_alike" s__law_alike a__law_alike d__law_alike
  g__law_alike : mg "_law_alike" = some (.ref a__law_alike)
  a__law_packed : Addr
  d__law_packed : FuncData
  F__law_packed : FnP K "_law_packed" "_law_packed" s__law_packed a__law_packed d__law_packed
  g__law_packed : mg "_law_packed" = some (.ref a__law_packed)
  a__law_unpacked : Addr
  d__law_unpacked : FuncData
  F__law_unpacked : FnP K "_law_unpacked" "_law_unpacked" s__law_unpacked a__law_unpacked d__law_unpacked
  g__law_unpacked : mg "_law_unpacked" = some (.ref a__law_unpacked)
  a__law_otherwise : Addr
  d__law_otherwise : FuncData
  F__law_otherwise : FnP K "_law_otherwise" "_law_otherwise" s__law_otherwise a__law_otherwise d__law_otherwise
  g__law_otherwise : mg "_law_otherwise" = some (.ref a__law_otherwise)
  a_law : Addr
  d_law : FuncData
  F_law : FnP K "law" "law" s_law a_law d_law
  g_law : mg "law" = some (.ref a_law)
abbrev gx {K : PySem.W.Frag} {mg : Str → Option Value} (T : Tx K mg) : Gx := ⟨fun _ => 0, fl⟩
section
variable {P : Program} {w : World} {K : PySem.W.Frag} {mg : Str → Option Value} {base : Heap}
theorem bd_sum_of (T : Tx K mg) : Binds K T.d_sum_of ["body"] [] := FunD.bindsN T.F_sum_of fun _ _ _ _ _ _ us hl => match us, hl with | [_], _ => rfl
theorem ok_sum_of (T : Tx K mg) : FnOk P w K mg base CX0 1 T.a_sum_of T.d_sum_of ["body"] (spOf K (gx T) 1 F_sum_of) := by
  obtain ⟨t_BETWEEN, k_BETWEEN⟩ := T.k_BETWEEN
  obtain ⟨t_RING, k_RING⟩ := T.k_RING
  obtain ⟨t_SIGNS, k_SIGNS⟩ := T.k_SIGNS
  refine T.F_sum_of.ok (k := 0) sc_sum_of sp_len (fun cdv A outer s H vs Q E hr h => ?_)
  refine' ⟨_, PSs.nox ?p, body_ok (N := N_sum_of) (n := 1) (b := b_sum_of) ?s (by decide) h⟩
  case p => exact (pss_cons (ps_set (i := 1) sc_sum_of.nd rfl (Or.inl rfl) pe_int)
    (pss_cons (ps_for PassesOwn.never rfl (pi_str (pv 0)) (pg_name (i := 2) sc_sum_of.nd rfl (Or.inl rfl)) (pss_one (ps_set (i := 1) sc_sum_of.nd rfl (Or.inl rfl) (pe_op op_mod (pe_op (opAdd K) (pe_op (opAdd K) (pe_op op_mulAny (pv 1) pe_int) (pe_m1 PySem.F.slot_str_index PySem.F.type_str_index mt_sindex (pe_op (opAdd K) (pe_glob (v := .str _) rfl k_SIGNS ⟨_, rfl⟩) (pe_glob (v := .str _) rfl k_BETWEEN ⟨_, rfl⟩)) (pv 2))) pe_int) (pe_glob (v := .int _) rfl k_RING ⟨_, rfl⟩)))))
    (pss_one (ps_ret (pv 1)))))
  case s => exact (ss_seq (ss_asg (se_c (d := .int 0) rv_int) sg_name)
    (ss_seq (ss_for (si_str se_var) sg_name (ss_asg (se_op s2_mod (se_op s2_add (se_op s2_add (se_op s2_mul se_var (se_c (d := .int 61) rv_int)) (se_tm1 sm_index (se_op s2_add (se_c (d := .str [97, 98, 99, 100, 101, 102, 103, 104, 105, 106, 107, 108, 109, 110, 111, 112, 113, 114, 115, 116, 117, 118, 119, 120, 121, 122, 48, 49, 50, 51, 52, 53, 54, 55, 56, 57, 32, 62, 63, 60, 59]) (rv_str (by decide +kernel))) (se_c (d := .str [124]) (rv_str (by decide +kernel)))) se_var)) (se_c (d := .int 1) rv_int)) (se_c (d := .int 9973) rv_int)) sg_name))
    (ss_ret se_var)))
theorem bd_packed (T : Tx K mg) : Binds K T.d_packed ["fields"] [] := FunD.bindsN T.F_packed fun _ _ _ _ _ _ us hl => match us, hl with | [_], _ => rfl
theorem ok_packed (T : Tx K mg) : FnOk P w K mg base CX0 2 T.a_packed T.d_packed ["fields"] (spOf K (gx T) 1 F_packed) := by
  obtain ⟨t_BETWEEN, k_BETWEEN⟩ := T.k_BETWEEN
  obtain ⟨t_CLOSE, k_CLOSE⟩ := T.k_CLOSE
  obtain ⟨t_POINT, k_POINT⟩ := T.k_POINT
  obtain ⟨t_SIGNS, k_SIGNS⟩ := T.k_SIGNS
  refine T.F_packed.ok (k := 1) sc_packed sp_len (fun cdv A outer s H vs Q E hr h => ?_)
  refine' ⟨_, PSs.nox ?p, body_ok (N := N_packed) (n := 1) (b := b_packed) ?s (by decide) h⟩
  case p => exact (pss_cons (ps_if (PW.pt (pw_or (pt_cmpR (opEq K hr.units) (pe_callB (callLen K) rfl T.n_len (by decide +kernel) (pa_cons (pv 0) pa_nil)) pe_int (nomark _)) (pw_or1 (pt_cmpR (opNe K hr.units) (pe_lc (own := [("sign", 1)]) (g := (gName 1)) rfl sc_packed.nd (pi_str (pe_join pe_str (pv 0))) (blkOk_by (own := [("sign", 1)]) (N := N_packed) (sc := defScope s_packed) (by decide +kernel)) (fun _ _ _ _ _ => (pg_name (i := 1) sc_packed.nd rfl (Or.inl rfl))) (fun _ _ _ _ _ => (pts_one (pt_cmpR op_notIn_sign (pv 1) (pe_glob (v := .str _) rfl k_SIGNS ⟨_, rfl⟩) (by rfl)))) (fun _ _ _ _ _ => (pv 1))) (pe_lst pa_nil) (nomark _))))) (pss_one ps_never) pss_nil)
    (pss_cons (ps_set (i := 2) sc_packed.nd rfl (Or.inl rfl) (pe_join (pe_glob (v := .str _) rfl k_BETWEEN ⟨_, rfl⟩) (pv 0)))
    (pss_one (ps_ret (pe_op (opAdd K) (pe_op (opAdd K) (pe_op (opAdd K) (pe_op (opAdd K) (pe_op (opAdd K) (pe_callTy call_strAny rfl T.n_str (by decide +kernel) (pa_cons (pe_callB (callLen K) rfl T.n_len (by decide +kernel) (pa_cons (pv 2) pa_nil)) pa_nil)) (pe_glob (v := .str _) rfl k_POINT ⟨_, rfl⟩)) (pe_callTy call_strAny rfl T.n_str (by decide +kernel) (pa_cons (pe_call (ok_sum_of T) (hr.mono (by decide)) rfl T.g_sum_of T.F_sum_of.kp (bd_sum_of T) .nil pass0 (pa_cons (pv 2) pa_nil)) pa_nil))) (pe_glob (v := .str _) rfl k_POINT ⟨_, rfl⟩)) (pv 2)) (pe_glob (v := .str _) rfl k_CLOSE ⟨_, rfl⟩))))))
  case s => exact (ss_seq (ss_if (st_or (st_test (se_op s2_eq (se_n sn_len (sa_cons se_var sa_nil)) (se_c (d := .int 0) rv_int))) (st_test (se_op s2_ne (se_of (sf_lc (vs := [1]) (si_str (se_tm1 sm_join (se_c (d := .str []) (rv_str (by decide +kernel))) se_var)) (sp_name (by decide)) (st_test (se_op s2_notInS se_var (se_c (d := .str [97, 98, 99, 100, 101, 102, 103, 104, 105, 106, 107, 108, 109, 110, 111, 112, 113, 114, 115, 116, 117, 118, 119, 120, 121, 122, 48, 49, 50, 51, 52, 53, 54, 55, 56, 57, 32, 62, 63, 60, 59]) (rv_str (by decide +kernel))))) se_var)) (se_of (sf_lst sa_nil))))) ss_never ss_next)
    (ss_seq (ss_asg (se_tm1 sm_join (se_c (d := .str [124]) (rv_str (by decide +kernel))) se_var) sg_name)
    (ss_ret (se_op s2_add (se_op s2_add (se_op s2_add (se_op s2_add (se_op s2_add (se_n sn_str (sa_cons (se_n sn_len (sa_cons se_var sa_nil)) sa_nil)) (se_c (d := .str [46]) (rv_str (by decide +kernel)))) (se_n sn_str (sa_cons (se_call runB_len (sa_cons se_var sa_nil)) sa_nil))) (se_c (d := .str [46]) (rv_str (by decide +kernel)))) se_var) (se_c (d := .str [33]) (rv_str (by decide +kernel)))))))
theorem bd_number_of (T : Tx K mg) : Binds K T.d_number_of ["word"] [] := FunD.bindsN T.F_number_of fun _ _ _ _ _ _ us hl => match us, hl with | [_], _ => rfl
theorem ok_number_of (T : Tx K mg) : FnOk P w K mg base CX0 1 T.a_number_of T.d_number_of ["word"] (spOf K (gx T) 1 F_number_of) := by
  obtain ⟨t_FIGURES, k_FIGURES⟩ := T.k_FIGURES
  obtain ⟨t_MOST_FIGURES, k_MOST_FIGURES⟩ := T.k_MOST_FIGURES
  refine T.F_number_of.ok (k := 0) sc_number_of sp_len (fun cdv A outer s H vs Q E hr h => ?_)
  refine' ⟨_, PSs.nox ?p, body_ok (N := N_number_of) (n := 1) (b := b_number_of) ?s (by decide) h⟩
  case p => exact (pss_cons (ps_if (PW.pt (pw_or (pt_not (pt_chain op_le op_le pe_int (pe_callB (callLen K) rfl T.n_len (by decide +kernel) (pa_cons (pv 0) pa_nil)) (pe_glob (v := .int _) rfl k_MOST_FIGURES ⟨_, rfl⟩))) (pw_or1 (pt_cmpR (opNe K hr.units) (pe_lc (own := [("sign", 1)]) (g := (gName 1)) rfl sc_number_of.nd (pi_str (pv 0)) (blkOk_by (own := [("sign", 1)]) (N := N_number_of) (sc := defScope s_number_of) (by decide +kernel)) (fun _ _ _ _ _ => (pg_name (i := 1) sc_number_of.nd rfl (Or.inl rfl))) (fun _ _ _ _ _ => (pts_one (pt_cmpR op_notIn_sign (pv 1) (pe_glob (v := .str _) rfl k_FIGURES ⟨_, rfl⟩) (by rfl)))) (fun _ _ _ _ _ => (pv 1))) (pe_lst pa_nil) (nomark _))))) (pss_one (ps_ret pe_non)) pss_nil)
    (pss_one (ps_ret (pe_ifExp (PW.pt (pw_or (pt_cmpR (opNe K hr.units) (pe_ix (ixSeq K) (pv 0) pe_int (fun _ _ => rfl)) pe_str (nomark _)) (pw_or1 (pt_cmpR (opEq K hr.units) (pv 0) pe_str (nomark _))))) (pe_callTy call_int_str rfl T.n_int (by decide +kernel) (pa_cons (pv 0) pa_nil)) pe_non))))
  case s => exact (ss_seq (ss_if (st_or (st_not (st_test (se_chain s2_cmp s2_cmp (se_c (d := .int 1) rv_int) (se_n sn_len (sa_cons se_var sa_nil)) (se_c (d := .int 6) rv_int)))) (st_test (se_op s2_ne (se_of (sf_lc (vs := [1]) (si_str se_var) (sp_name (by decide)) (st_test (se_op s2_notInS se_var (se_c (d := .str [48, 49, 50, 51, 52, 53, 54, 55, 56, 57]) (rv_str (by decide +kernel))))) se_var)) (se_of (sf_lst sa_nil))))) (ss_ret (se_c (v := .non) (d := .non) rv_non)) ss_next)
    (ss_ret (se_if (st_or (st_test (se_op s2_ne (se_op s2_ix se_var (se_c (d := .int 0) rv_int)) (se_c (d := .str [48]) (rv_str (by decide +kernel))))) (st_test (se_op s2_eq se_var (se_c (d := .str [48]) (rv_str (by decide +kernel)))))) (se_n sn_intS (sa_cons se_var sa_nil)) (se_c (v := .non) (d := .non) rv_non))))
theorem bd_unpacked (T : Tx K mg) : Binds K T.d_unpacked ["text"] [] := FunD.bindsN T.F_unpacked fun _ _ _ _ _ _ us hl => match us, hl with | [_], _ => rfl
theorem ok_unpacked (T : Tx K mg) : FnOk P w K mg base CX0 2 T.a_unpacked T.d_unpacked ["text"] (spOf K (gx T) 1 F_unpacked) := by
  obtain ⟨t_BETWEEN, k_BETWEEN⟩ := T.k_BETWEEN
  obtain ⟨t_CLOSE, k_CLOSE⟩ := T.k_CLOSE
  obtain ⟨t_POINT, k_POINT⟩ := T.k_POINT
  obtain ⟨t_SIGNS, k_SIGNS⟩ := T.k_SIGNS
  refine T.F_unpacked.ok (k := 1) sc_unpacked sp_len (fun cdv A outer s H vs Q E hr h => ?_)
  refine' ⟨_, PSs.nox ?p, body_ok (N := N_unpacked) (n := 1) (b := b_unpacked) ?s (by decide) h⟩
  case p => exact (pss_cons (ps_set (i := 1) sc_unpacked.nd rfl (Or.inl rfl) (pe_split (pv 0) (pe_glob (v := .str _) rfl k_POINT ⟨_, rfl⟩)))
    (pss_cons (ps_if (PW.pt (pw_or (pt_cmpR (opNe K hr.units) (pe_callB (callLen K) rfl T.n_len (by decide +kernel) (pa_cons (pv 1) pa_nil)) pe_int (nomark _)) (pw_or1 (pt_cmpR (opNe K hr.units) (pe_slice (slAny K) (pe_ix (ixSeq K) (pv 1) pe_int (fun _ _ => rfl)) (po_some (pe_un un_neg pe_int)) po_none) (pe_glob (v := .str _) rfl k_CLOSE ⟨_, rfl⟩) (nomark _))))) (pss_one (ps_ret pe_non)) pss_nil)
    (pss_cons (ps_set (i := 2) sc_unpacked.nd rfl (Or.inl rfl) (pe_slice (slAny K) (pe_ix (ixSeq K) (pv 1) pe_int (fun _ _ => rfl)) po_none (po_some (pe_un un_neg pe_int))))
    (pss_cons (ps_if (pt_cmpR (opNe K hr.units) (pe_lc (own := [("sign", 3)]) (g := (gName 3)) rfl sc_unpacked.nd (pi_str (pv 2)) (blkOk_by (own := [("sign", 3)]) (N := N_unpacked) (sc := defScope s_unpacked) (by decide +kernel)) (fun _ _ _ _ _ => (pg_name (i := 3) sc_unpacked.nd rfl (Or.inl rfl))) (fun _ _ _ _ _ => (pts_one (pt_cmpR op_notIn_sign (pv 3) (pe_op (opAdd K) (pe_glob (v := .str _) rfl k_SIGNS ⟨_, rfl⟩) (pe_glob (v := .str _) rfl k_BETWEEN ⟨_, rfl⟩)) (by rfl)))) (fun _ _ _ _ _ => (pv 3))) (pe_lst pa_nil) (nomark _)) (pss_one (ps_ret pe_non)) pss_nil)
    (pss_cons (ps_if (PW.pt (pw_or (pt_cmpR (opNe K hr.units) (pe_call (ok_number_of T) (hr.mono (by decide)) rfl T.g_number_of T.F_number_of.kp (bd_number_of T) .nil pass0 (pa_cons (pe_ix (ixSeq K) (pv 1) pe_int (fun _ _ => rfl)) pa_nil)) (pe_callB (callLen K) rfl T.n_len (by decide +kernel) (pa_cons (pv 2) pa_nil)) (nomark _)) (pw_or1 (pt_cmpR (opNe K hr.units) (pe_call (ok_number_of T) (hr.mono (by decide)) rfl T.g_number_of T.F_number_of.kp (bd_number_of T) .nil pass0 (pa_cons (pe_ix (ixSeq K) (pv 1) pe_int (fun _ _ => rfl)) pa_nil)) (pe_call (ok_sum_of T) (hr.mono (by decide)) rfl T.g_sum_of T.F_sum_of.kp (bd_sum_of T) .nil pass0 (pa_cons (pv 2) pa_nil)) (nomark _))))) (pss_one (ps_ret pe_non)) pss_nil)
    (pss_one (ps_ret (pe_split (pv 2) (pe_glob (v := .str _) rfl k_BETWEEN ⟨_, rfl⟩)))))))))
  case s => exact (ss_seq (ss_asg (se_of (sf_tm1 smf_split se_var (se_c (d := .str [46]) (rv_str (by decide +kernel))))) sg_name)
    (ss_seq (ss_if (st_or (st_test (se_op s2_ne (se_n sn_len (sa_cons se_var sa_nil)) (se_c (d := .int 3) rv_int))) (st_test (se_op s2_ne (se_sl s3_sl (se_op s2_ix se_var (se_c (d := .int 2) rv_int)) (so_some (se_un s1_neg (se_c (d := .int 1) rv_int))) so_none) (se_c (d := .str [33]) (rv_str (by decide +kernel)))))) (ss_ret (se_c (v := .non) (d := .non) rv_non)) ss_next)
    (ss_seq (ss_asg (se_sl s3_sl (se_op s2_ix se_var (se_c (d := .int 2) rv_int)) so_none (so_some (se_un s1_neg (se_c (d := .int 1) rv_int)))) sg_name)
    (ss_seq (ss_if (st_test (se_op s2_ne (se_of (sf_lc (vs := [3]) (si_str se_var) (sp_name (by decide)) (st_test (se_op s2_notInS se_var (se_op s2_add (se_c (d := .str [97, 98, 99, 100, 101, 102, 103, 104, 105, 106, 107, 108, 109, 110, 111, 112, 113, 114, 115, 116, 117, 118, 119, 120, 121, 122, 48, 49, 50, 51, 52, 53, 54, 55, 56, 57, 32, 62, 63, 60, 59]) (rv_str (by decide +kernel))) (se_c (d := .str [124]) (rv_str (by decide +kernel)))))) se_var)) (se_of (sf_lst sa_nil)))) (ss_ret (se_c (v := .non) (d := .non) rv_non)) ss_next)
    (ss_seq (ss_if (st_or (st_test (se_op s2_ne (se_call runB_len (sa_cons (se_op s2_ix se_var (se_c (d := .int 0) rv_int)) sa_nil)) (se_n sn_len (sa_cons se_var sa_nil)))) (st_test (se_op s2_ne (se_call runB_len (sa_cons (se_op s2_ix se_var (se_c (d := .int 1) rv_int)) sa_nil)) (se_call runB_len (sa_cons se_var sa_nil))))) (ss_ret (se_c (v := .non) (d := .non) rv_non)) ss_next)
    (ss_retF (sf_tm1 smf_split se_var (se_c (d := .str [124]) (rv_str (by decide +kernel))))))))))
theorem bd__law_begun (T : Tx K mg) : Binds K T.d__law_begun ["_law_script"] [] := FunD.bindsN T.F__law_begun fun _ _ _ _ _ _ us hl => match us, hl with | [_], _ => rfl
theorem ok__law_begun (T : Tx K mg) : FnOk P w K mg base CX0 1 T.a__law_begun T.d__law_begun ["_law_script"] (spOf K (gx T) 1 F__law_begun) := by
  refine T.F__law_begun.ok (k := 0) sc__law_begun sp_len (fun cdv A outer s H vs Q E hr h => ?_)
  refine' ⟨_, PSs.nox ?p, body_ok (N := N__law_begun) (n := 1) (b := b__law_begun) ?s (by decide) h⟩
  case p => exact (pss_cons (ps_set (i := 1) sc__law_begun.nd rfl (Or.inl rfl) pe_int)
    (pss_cons (ps_for PassesOwn.never rfl (piList K (pv 0)) (pg_name (i := 2) sc__law_begun.nd rfl (Or.inl rfl)) (pss_one (ps_set (i := 1) sc__law_begun.nd rfl (Or.inl rfl) (pe_op op_mod (pe_op (opAdd K) (pe_op (opAdd K) (pe_op op_mulAny (pv 1) pe_int) (pe_op op_mulAny (pv 2) pe_int)) pe_int) pe_int))))
    (pss_one (ps_ret (pe_lst (pa_cons (pe_callTy (callList K) rfl T.n_list (by decide +kernel) (pa_cons (pv 0) pa_nil)) (pa_cons (pe_op op_mulAny (pv 1) (pe_callTy call_int1 rfl T.n_int (by decide +kernel) (pa_cons (pe_cmpR op_gt (pe_callB (callLen K) rfl T.n_len (by decide +kernel) (pa_cons (pv 0) pa_nil)) pe_int (nomark _)) pa_nil))) pa_nil)))))))
  case s => exact (ss_seq (ss_asg (se_c (d := .int 0) rv_int) sg_name)
    (ss_seq (ss_for (si_list se_var) sg_name (ss_asg (se_op s2_mod (se_op s2_add (se_op s2_add (se_op s2_mul se_var (se_c (d := .int 48271) rv_int)) (se_op s2_mul se_var (se_c (d := .int 69621) rv_int))) (se_c (d := .int 11) rv_int)) (se_c (d := .int 2147483647) rv_int)) sg_name))
    (ss_ret (se_own (sf_lst (sa_cons (se_own (sf_n snf_listOf (sa_cons se_var sa_nil))) (sa_cons (se_op s2_mul se_var (se_n sn_int (sa_cons (se_op s2_cmp (se_n sn_len (sa_cons se_var sa_nil)) (se_c (d := .int 2) rv_int)) sa_nil))) sa_nil)))))))
theorem bd__law_take (T : Tx K mg) : Binds K T.d__law_take ["_law_box", "_law_many"] [] := FunD.bindsN T.F__law_take fun _ _ _ _ _ _ us hl => match us, hl with | [_, _], _ => rfl
theorem ok__law_take (T : Tx K mg) : FnOk P w K mg base CX0 1 T.a__law_take T.d__law_take ["_law_box", "_law_many"] (spOf K (gx T) 2 F__law_take) := by
  refine T.F__law_take.ok (k := 0) sc__law_take sp_len (fun cdv A outer s H vs Q E hr h => ?_)
  refine' ⟨_, PSs.nox ?p, body_ok (N := N__law_take) (n := 2) (b := b__law_take) ?s (by decide) h⟩
  case p => exact (pss_cons (ps_if (pt_cmpR (opEq K hr.units) (pe_ix (ixSeq K) (pv 0) pe_int (fun _ _ => rfl)) (pe_lst pa_nil) (nomark _)) (pss_cons (ps_asg (pe_op op_mod (pe_op op_mulAny (pe_ix (ixSeq K) (pv 0) pe_int (fun _ _ => rfl)) pe_int) pe_int) (pg_sub (pv 0) pe_int set_list))
    (pss_one (ps_ret (pe_op op_mod (pe_op op_fdiv (pe_ix (ixSeq K) (pv 0) pe_int (fun _ _ => rfl)) pe_int) (pv 1))))) pss_nil)
    (pss_cons (ps_set (i := 2) sc__law_take.nd rfl (Or.inl rfl) (pe_ix (ixSeq K) (pe_ix (ixSeq K) (pv 0) pe_int (fun _ _ => rfl)) pe_int (fun _ _ => rfl)))
    (pss_cons (ps_asg (pe_op op_fdiv (pv 2) (pv 1)) (pg_sub (pe_ix (ixSeq K) (pv 0) pe_int (fun _ _ => rfl)) pe_int set_list))
    (pss_cons (ps_if (PW.pt (pw_or (pt_cmpR (opEq K hr.units) (pe_ix (ixSeq K) (pe_ix (ixSeq K) (pv 0) pe_int (fun _ _ => rfl)) pe_int (fun _ _ => rfl)) pe_int (nomark _)) (pw_or1 (pt_cmpR (opEq K hr.units) (pe_ix (ixSeq K) (pe_ix (ixSeq K) (pv 0) pe_int (fun _ _ => rfl)) pe_int (fun _ _ => rfl)) (pe_un un_neg pe_int) (nomark _))))) (pss_one (ps_expr (peBm K PySem.F.plainAttrs_list PySem.F.slot_list_pop PySem.F.type_list_pop mt_popAt (pe_ix (ixSeq K) (pv 0) pe_int (fun _ _ => rfl)) (pa_cons pe_int pa_nil)))) pss_nil)
    (pss_one (ps_ret (pe_op op_mod (pv 2) (pv 1))))))))
  case s => exact (ss_seq (ss_if (st_test (se_op s2_eq (se_op s2_ix se_var (se_c (d := .int 0) rv_int)) (se_of (sf_lst sa_nil)))) (ss_seq (ss_asg (se_op s2_mod (se_op s2_mul (se_op s2_ix se_var (se_c (d := .int 1) rv_int)) (se_c (d := .int 48271) rv_int)) (se_c (d := .int 2147483647) rv_int)) (sg_sub se_var (se_c (d := .int 1) rv_int)))
    (ss_ret (se_op s2_mod (se_op s2_div (se_op s2_ix se_var (se_c (d := .int 1) rv_int)) (se_c (d := .int 7) rv_int)) se_var))) ss_next)
    (ss_seq (ss_asg (se_op s2_ix (se_op s2_ix se_var (se_c (d := .int 0) rv_int)) (se_c (d := .int 0) rv_int)) sg_name)
    (ss_seq (ss_asg (se_op s2_div se_var se_var) (sg_sub (se_op s2_ix se_var (se_c (d := .int 0) rv_int)) (se_c (d := .int 0) rv_int)))
    (ss_seq (ss_if (st_or (st_test (se_op s2_eq (se_op s2_ix (se_op s2_ix se_var (se_c (d := .int 0) rv_int)) (se_c (d := .int 0) rv_int)) (se_c (d := .int 0) rv_int))) (st_test (se_op s2_eq (se_op s2_ix (se_op s2_ix se_var (se_c (d := .int 0) rv_int)) (se_c (d := .int 0) rv_int)) (se_un s1_neg (se_c (d := .int 1) rv_int))))) (ss_do (se_bm sm_popAt (se_op s2_ix se_var (se_c (d := .int 0) rv_int)) (sa_cons (se_c (d := .int 0) rv_int) sa_nil))) ss_next)
    (ss_ret (se_op s2_mod se_var se_var))))))
theorem bd__law_alike (T : Tx K mg) : Binds K T.d__law_alike ["_law_found", "_law_due"] [] := FunD.bindsN T.F__law_alike fun _ _ _ _ _ _ us hl => match us, hl with | [_, _], _ => rfl
theorem _law_alike_len : ∀ (m : Nat) ds S r, F__law_alike m ds S = some r → ds.length = 2
  | 0, _, _, _, h => by cases h
  | m + 1, ds, S, r, h => runB_len ds S r h
theorem ok__law_alike (T : Tx K mg) : ∀ m : Nat, FnOk P w K mg base CX0 (1 + m) T.a__law_alike T.d__law_alike ["_law_found", "_law_due"] (spOf K (gx T) 2 (F__law_alike m))
  | 0 => fn_none
  | m + 1 => by
    have G := ok__law_alike T m
    refine T.F__law_alike.ok (k := 1 + m) sc__law_alike sp_len (fun cdv A outer s H vs Q E hr h => ?_)
    refine' ⟨_, PSs.nox ?p, body_ok (N := N__law_alike) (n := 2) (b := b__law_alike (F__law_alike m)) ?s (by decide) h⟩
    case p => exact (pss_cons (ps_if (pt_cmp (pc_isN (pv 1)) rfl) (pss_one (ps_ret (pe_cmp (pc_isN (pv 0)) rfl))) pss_nil)
    (pss_cons (ps_if (pt_val (pe_callB (callIsi K) rfl T.n_isinstance (by decide +kernel) (pa_cons (pv 1) (pa_cons (pe_bltn (v := .ty "bool") rfl T.n_bool (by decide +kernel) rfl) pa_nil)))) (pss_one (ps_ret (pe_and (pe_callB (callIsi K) rfl T.n_isinstance (by decide +kernel) (pa_cons (pv 0) (pa_cons (pe_bltn (v := .ty "bool") rfl T.n_bool (by decide +kernel) rfl) pa_nil))) (pe_one (pe_cmpR (opEq K hr.units) (pv 0) (pv 1) (nomark _)))))) pss_nil)
    (pss_cons (ps_if (pt_val (pe_callB (callIsi K) rfl T.n_isinstance (by decide +kernel) (pa_cons (pv 1) (pa_cons (pe_bltn (v := .ty "int") rfl T.n_int (by decide +kernel) rfl) pa_nil)))) (pss_one (ps_ret (pe_and (pe_callB (callIsi K) rfl T.n_isinstance (by decide +kernel) (pa_cons (pv 0) (pa_cons (pe_bltn (v := .ty "int") rfl T.n_int (by decide +kernel) rfl) pa_nil))) (pe_and (pe_not (pe_callB (callIsi K) rfl T.n_isinstance (by decide +kernel) (pa_cons (pv 0) (pa_cons (pe_bltn (v := .ty "bool") rfl T.n_bool (by decide +kernel) rfl) pa_nil)))) (pe_one (pe_cmpR (opEq K hr.units) (pv 0) (pv 1) (nomark _))))))) pss_nil)
    (pss_cons (ps_if (pt_val (pe_callB (callIsi K) rfl T.n_isinstance (by decide +kernel) (pa_cons (pv 1) (pa_cons (pe_bltn (v := .ty "str") rfl T.n_str (by decide +kernel) rfl) pa_nil)))) (pss_one (ps_ret (pe_and (pe_callB (callIsi K) rfl T.n_isinstance (by decide +kernel) (pa_cons (pv 0) (pa_cons (pe_bltn (v := .ty "str") rfl T.n_str (by decide +kernel) rfl) pa_nil))) (pe_one (pe_cmpR (opEq K hr.units) (pv 0) (pv 1) (nomark _)))))) pss_nil)
    (pss_cons (ps_if (PW.pt (pw_or (pt_cmpR (opNe K hr.units) (pe_callB (callIsi K) rfl T.n_isinstance (by decide +kernel) (pa_cons (pv 1) (pa_cons (pe_bltn (v := .ty "tuple") rfl T.n_tuple (by decide +kernel) rfl) pa_nil))) (pe_callB (callIsi K) rfl T.n_isinstance (by decide +kernel) (pa_cons (pv 0) (pa_cons (pe_bltn (v := .ty "tuple") rfl T.n_tuple (by decide +kernel) rfl) pa_nil))) (nomark _)) (pw_or1 (pt_cmpR (opNe K hr.units) (pe_callB (callIsi K) rfl T.n_isinstance (by decide +kernel) (pa_cons (pv 1) (pa_cons (pe_bltn (v := .ty "list") rfl T.n_list (by decide +kernel) rfl) pa_nil))) (pe_callB (callIsi K) rfl T.n_isinstance (by decide +kernel) (pa_cons (pv 0) (pa_cons (pe_bltn (v := .ty "list") rfl T.n_list (by decide +kernel) rfl) pa_nil))) (nomark _))))) (pss_one (ps_ret pe_bl)) pss_nil)
    (pss_cons (ps_if (pt_cmpR (opNe K hr.units) (pe_callB (callLen K) rfl T.n_len (by decide +kernel) (pa_cons (pv 0) pa_nil)) (pe_callB (callLen K) rfl T.n_len (by decide +kernel) (pa_cons (pv 1) pa_nil)) (nomark _)) (pss_one (ps_ret pe_bl)) pss_nil)
    (pss_cons (ps_for PassesOwn.never rfl (pi_range1 rfl T.n_range (pa_cons (pe_callB (callLen K) rfl T.n_len (by decide +kernel) (pa_cons (pv 1) pa_nil)) pa_nil)) (pg_name (i := 2) sc__law_alike.nd rfl (Or.inl rfl)) (pss_one (ps_if (pt_not (pt_val (pe_call G (hr.mono (by omega)) rfl T.g__law_alike T.F__law_alike.kp (bd__law_alike T) .nil pass0 (pa_cons (pe_ix (ixSeq K) (pv 0) (pv 2) (fun _ _ => rfl)) (pa_cons (pe_ix (ixSeq K) (pv 1) (pv 2) (fun _ _ => rfl)) pa_nil))))) (pss_one (ps_ret pe_bl)) pss_nil)))
    (pss_one (ps_ret pe_bl)))))))))
    case s => exact (ss_seq (ss_if (st_B (se_isN se_var)) (ss_ret (se_isN se_var)) ss_next)
    (ss_seq (ss_if (st_B (se_n sn_isT (sa_cons se_var (sa_cons (se_c rv_raw) sa_nil)))) (ss_ret (se_and (se_n sn_isT (sa_cons se_var (sa_cons (se_c rv_raw) sa_nil))) (se_op s2_eq se_var se_var))) ss_next)
    (ss_seq (ss_if (st_B (se_n sn_isT (sa_cons se_var (sa_cons (se_c rv_raw) sa_nil)))) (ss_ret (se_and (se_n sn_isT (sa_cons se_var (sa_cons (se_c rv_raw) sa_nil))) (se_and (se_not (se_n sn_isT (sa_cons se_var (sa_cons (se_c rv_raw) sa_nil)))) (se_op s2_eq se_var se_var)))) ss_next)
    (ss_seq (ss_if (st_B (se_n sn_isT (sa_cons se_var (sa_cons (se_c rv_raw) sa_nil)))) (ss_ret (se_and (se_n sn_isT (sa_cons se_var (sa_cons (se_c rv_raw) sa_nil))) (se_op s2_eq se_var se_var))) ss_next)
    (ss_seq (ss_if (st_or (st_test (se_op s2_ne (se_n sn_isT (sa_cons se_var (sa_cons (se_c rv_raw) sa_nil))) (se_n sn_isT (sa_cons se_var (sa_cons (se_c rv_raw) sa_nil))))) (st_test (se_op s2_ne (se_n sn_isT (sa_cons se_var (sa_cons (se_c rv_raw) sa_nil))) (se_n sn_isT (sa_cons se_var (sa_cons (se_c rv_raw) sa_nil)))))) (ss_ret (se_c (v := .bl false) (d := .bl false) rv_bl)) ss_next)
    (ss_seq (ss_if (st_test (se_op s2_ne (se_n sn_len (sa_cons se_var sa_nil)) (se_n sn_len (sa_cons se_var sa_nil)))) (ss_ret (se_c (v := .bl false) (d := .bl false) rv_bl)) ss_next)
    (ss_seq (ss_for (si_r1 (sa_cons (se_n sn_len (sa_cons se_var sa_nil)) sa_nil)) sg_name (ss_if (st_not (st_B (se_call (_law_alike_len _) (sa_cons (se_op s2_ix se_var se_var) (sa_cons (se_op s2_ix se_var se_var) sa_nil))))) (ss_ret (se_c (v := .bl false) (d := .bl false) rv_bl)) ss_next))
    (ss_ret (se_c (v := .bl true) (d := .bl true) rv_bl)))))))))
theorem bd__law_packed (T : Tx K mg) : Binds K T.d__law_packed ["_law_fields"] [] := FunD.bindsN T.F__law_packed fun _ _ _ _ _ _ us hl => match us, hl with | [_], _ => rfl
theorem ok__law_packed (T : Tx K mg) : FnOk P w K mg base CX0 1 T.a__law_packed T.d__law_packed ["_law_fields"] (spOf K (gx T) 1 F__law_packed) := by
  refine T.F__law_packed.ok (k := 0) sc__law_packed sp_len (fun cdv A outer s H vs Q E hr h => ?_)
  refine' ⟨_, PSs.nox ?p, body_ok (N := N__law_packed) (n := 1) (b := b__law_packed) ?s (by decide) h⟩
  case p => exact (pss_cons (ps_set (i := 1) sc__law_packed.nd rfl (Or.inl rfl) pe_str)
    (pss_cons (ps_set (i := 2) sc__law_packed.nd rfl (Or.inl rfl) (pe_join pe_str (pv 0)))
    (pss_cons (ps_set (i := 3) sc__law_packed.nd rfl (Or.inl rfl) pe_int)
    (pss_cons (ps_for PassesOwn.never rfl (pi_str (pv 2)) (pg_name (i := 4) sc__law_packed.nd rfl (Or.inl rfl)) (pss_one (ps_set (i := 3) sc__law_packed.nd rfl (Or.inl rfl) (pe_op op_mod (pe_op (opAdd K) (pe_op (opAdd K) (pe_op op_mulAny (pv 3) pe_int) (pe_m1 PySem.F.slot_str_index PySem.F.type_str_index mt_sindex (pv 1) (pv 4))) pe_int) pe_int))))
    (pss_one (ps_ret (pe_op (opAdd K) (pe_op (opAdd K) (pe_op (opAdd K) (pe_op (opAdd K) (pe_op (opAdd K) (pe_callTy call_strAny rfl T.n_str (by decide +kernel) (pa_cons (pe_callB (callLen K) rfl T.n_len (by decide +kernel) (pa_cons (pv 2) pa_nil)) pa_nil)) pe_str) (pe_callTy call_strAny rfl T.n_str (by decide +kernel) (pa_cons (pv 3) pa_nil))) pe_str) (pv 2)) pe_str)))))))
  case s => exact (ss_seq (ss_asg (se_c (d := .str [97, 98, 99, 100, 101, 102, 103, 104, 105, 106, 107, 108, 109, 110, 111, 112, 113, 114, 115, 116, 117, 118, 119, 120, 121, 122, 48, 49, 50, 51, 52, 53, 54, 55, 56, 57, 32, 62, 63, 60, 59, 124]) (rv_str (by decide +kernel))) sg_name)
    (ss_seq (ss_asg (se_tm1 sm_join (se_c (d := .str [124]) (rv_str (by decide +kernel))) se_var) sg_name)
    (ss_seq (ss_asg (se_c (d := .int 0) rv_int) sg_name)
    (ss_seq (ss_for (si_str se_var) sg_name (ss_asg (se_op s2_mod (se_op s2_add (se_op s2_add (se_op s2_mul se_var (se_c (d := .int 61) rv_int)) (se_tm1 sm_index se_var se_var)) (se_c (d := .int 1) rv_int)) (se_c (d := .int 9973) rv_int)) sg_name))
    (ss_ret (se_op s2_add (se_op s2_add (se_op s2_add (se_op s2_add (se_op s2_add (se_n sn_str (sa_cons (se_n sn_len (sa_cons se_var sa_nil)) sa_nil)) (se_c (d := .str [46]) (rv_str (by decide +kernel)))) (se_n sn_str (sa_cons se_var sa_nil))) (se_c (d := .str [46]) (rv_str (by decide +kernel)))) se_var) (se_c (d := .str [33]) (rv_str (by decide +kernel)))))))))
theorem bd__law_unpacked (T : Tx K mg) : Binds K T.d__law_unpacked ["_law_text"] [] := FunD.bindsN T.F__law_unpacked fun _ _ _ _ _ _ us hl => match us, hl with | [_], _ => rfl
theorem ok__law_unpacked (T : Tx K mg) : FnOk P w K mg base CX0 2 T.a__law_unpacked T.d__law_unpacked ["_law_text"] (spOf K (gx T) 1 F__law_unpacked) := by
  refine T.F__law_unpacked.ok (k := 1) sc__law_unpacked sp_len (fun cdv A outer s H vs Q E hr h => ?_)
  refine' ⟨_, PSs.nox ?p, body_ok (N := N__law_unpacked) (n := 1) (b := b__law_unpacked) ?s (by decide) h⟩
  case p => exact (pss_cons (ps_set (i := 1) sc__law_unpacked.nd rfl (Or.inr rfl) pe_str)
    (pss_cons (ps_if (PW.pt (pw_or (pt_cmpR (opNe K hr.units) (pe_m1 PySem.F.slot_str_count PySem.F.type_str_count mt_count (pv 0) pe_str) pe_int (nomark _)) (pw_or1 (pt_cmpR (opNe K hr.units) (pe_slice (slAny K) (pv 0) (po_some (pe_un un_neg pe_int)) po_none) pe_str (nomark _))))) (pss_one (ps_ret pe_non)) pss_nil)
    (pss_cons (ps_set (i := 2) sc__law_unpacked.nd rfl (Or.inl rfl) (pe_ix (ixSeq K) (pe_split (pe_slice (slAny K) (pv 0) po_none (po_some (pe_un un_neg pe_int))) pe_str) pe_int (fun _ _ => rfl)))
    (pss_cons (ps_if (pt_cmpR (opNe K hr.units) (pe_lc (own := [("_law_sign", 3)]) (g := (gName 3)) rfl sc__law_unpacked.nd (pi_str (pv 2)) (blkOk_by (own := [("_law_sign", 3)]) (N := N__law_unpacked) (sc := defScope s__law_unpacked) (by decide +kernel)) (fun _ _ _ _ _ => (pg_name (i := 3) sc__law_unpacked.nd rfl (Or.inl rfl))) (fun _ _ _ _ _ => (pts_one (pt_cmpR op_notIn_sign (pv 3) (pv 1) (by rfl)))) (fun _ _ _ _ _ => (pv 3))) (pe_lst pa_nil) (nomark _)) (pss_one (ps_ret pe_non)) pss_nil)
    (pss_cons (ps_set (i := 4) sc__law_unpacked.nd rfl (Or.inl rfl) (pe_split (pv 2) pe_str))
    (pss_one (ps_ret (pe_ifExp (pt_cmpR (opEq K hr.units) (pv 0) (pe_call (ok__law_packed T) (hr.mono (by decide)) rfl T.g__law_packed T.F__law_packed.kp (bd__law_packed T) .nil pass0 (pa_cons (pv 4) pa_nil)) (nomark _)) (pv 4) pe_non))))))))
  case s => exact (ss_seq (ss_asg (se_c (d := .str [97, 98, 99, 100, 101, 102, 103, 104, 105, 106, 107, 108, 109, 110, 111, 112, 113, 114, 115, 116, 117, 118, 119, 120, 121, 122, 48, 49, 50, 51, 52, 53, 54, 55, 56, 57, 32, 62, 63, 60, 59, 124]) (rv_str (by decide +kernel))) sg_name)
    (ss_seq (ss_if (st_or (st_test (se_op s2_ne (se_tm1 sm_count se_var (se_c (d := .str [46]) (rv_str (by decide +kernel)))) (se_c (d := .int 2) rv_int))) (st_test (se_op s2_ne (se_sl s3_sl se_var (so_some (se_un s1_neg (se_c (d := .int 1) rv_int))) so_none) (se_c (d := .str [33]) (rv_str (by decide +kernel)))))) (ss_ret (se_c (v := .non) (d := .non) rv_non)) ss_next)
    (ss_seq (ss_asg (se_op s2_ix (se_of (sf_tm1 smf_split (se_sl s3_sl se_var so_none (so_some (se_un s1_neg (se_c (d := .int 1) rv_int)))) (se_c (d := .str [46]) (rv_str (by decide +kernel))))) (se_c (d := .int 2) rv_int)) sg_name)
    (ss_seq (ss_if (st_test (se_op s2_ne (se_of (sf_lc (vs := [3]) (si_str se_var) (sp_name (by decide)) (st_test (se_op s2_notInS se_var se_var)) se_var)) (se_of (sf_lst sa_nil)))) (ss_ret (se_c (v := .non) (d := .non) rv_non)) ss_next)
    (ss_seq (ss_asg (se_of (sf_tm1 smf_split se_var (se_c (d := .str [124]) (rv_str (by decide +kernel))))) sg_name)
    (ss_ret (se_if (st_test (se_op s2_eq se_var (se_call runB_len (sa_cons se_var sa_nil)))) se_var (se_c (v := .non) (d := .non) rv_non))))))))
theorem bd__law_otherwise (T : Tx K mg) : Binds K T.d__law_otherwise ["_law_box", "_law_text"] [] := FunD.bindsN T.F__law_otherwise fun _ _ _ _ _ _ us hl => match us, hl with | [_, _], _ => rfl
theorem ok__law_otherwise (T : Tx K mg) : FnOk P w K mg base CX0 2 T.a__law_otherwise T.d__law_otherwise ["_law_box", "_law_text"] (spOf K (gx T) 2 F__law_otherwise) := by
  refine T.F__law_otherwise.ok (k := 1) sc__law_otherwise sp_len (fun cdv A outer s H vs Q E hr h => ?_)
  refine' ⟨_, PSs.nox ?p, body_ok (N := N__law_otherwise) (n := 2) (b := b__law_otherwise) ?s (by decide) h⟩
  case p => exact (pss_cons (ps_set (i := 2) sc__law_otherwise.nd rfl (Or.inl rfl) pe_str)
    (pss_cons (ps_par (i := 3) (j := 4) rfl sc__law_otherwise.nd rfl rfl (by decide) rfl rfl (pa_cons (pe_call (ok__law_take T) (hr.mono (by decide)) rfl T.g__law_take T.F__law_take.kp (bd__law_take T) .nil pass0 (pa_cons (pv 0) (pa_cons (pe_op (opAdd K) (pe_callB (callLen K) rfl T.n_len (by decide +kernel) (pa_cons (pv 1) pa_nil)) pe_int) pa_nil))) (pa_cons (pe_call (ok__law_take T) (hr.mono (by decide)) rfl T.g__law_take T.F__law_take.kp (bd__law_take T) .nil pass0 (pa_cons (pv 0) (pa_cons pe_int pa_nil))) pa_nil)) rfl)
    (pss_cons (ps_set (i := 5) sc__law_otherwise.nd rfl (Or.inl rfl) (pe_ix (ixSeq K) (pv 2) (pe_call (ok__law_take T) (hr.mono (by decide)) rfl T.g__law_take T.F__law_take.kp (bd__law_take T) .nil pass0 (pa_cons (pv 0) (pa_cons pe_int pa_nil))) (fun _ _ => rfl)))
    (pss_cons (ps_if (pt_cmpR (opEq K hr.units) (pv 4) pe_int (nomark _)) (pss_one (ps_set (i := 5) sc__law_otherwise.nd rfl (Or.inl rfl) pe_str)) pss_nil)
    (pss_cons (ps_if (pt_cmpR op_lt (pv 4) pe_int (nomark _)) (pss_one (ps_ret (pe_op (opAdd K) (pe_op (opAdd K) (pe_slice (slAny K) (pv 1) po_none (po_some (pv 3))) (pv 5)) (pe_slice (slAny K) (pv 1) (po_some (pe_op (opAdd K) (pv 3) (pe_callTy call_int1 rfl T.n_int (by decide +kernel) (pa_cons (pe_cmpR op_gt (pv 4) pe_int (nomark _)) pa_nil)))) po_none)))) pss_nil)
    (pss_cons (ps_set (i := 6) sc__law_otherwise.nd rfl (Or.inl rfl) (pe_op (opAdd K) (pv 3) (pe_call (ok__law_take T) (hr.mono (by decide)) rfl T.g__law_take T.F__law_take.kp (bd__law_take T) .nil pass0 (pa_cons (pv 0) (pa_cons pe_int pa_nil)))))
    (pss_cons (ps_if (pt_cmpR (opEq K hr.units) (pv 4) pe_int (nomark _)) (pss_one (ps_ret (pe_op (opAdd K) (pe_slice (slAny K) (pv 1) po_none (po_some (pv 6))) (pe_slice (slAny K) (pv 1) (po_some (pv 3)) po_none)))) pss_nil)
    (pss_cons (ps_if (pt_cmpR (opEq K hr.units) (pv 4) pe_int (nomark _)) (pss_one (ps_ret (pe_op (opAdd K) (pe_op op_mulAny pe_str (pe_op (opAdd K) pe_int (pe_call (ok__law_take T) (hr.mono (by decide)) rfl T.g__law_take T.F__law_take.kp (bd__law_take T) .nil pass0 (pa_cons (pv 0) (pa_cons pe_int pa_nil))))) (pv 1)))) pss_nil)
    (pss_one (ps_ret (pe_op (opAdd K) (pe_op (opAdd K) (pe_slice (slAny K) (pv 1) po_none (po_some (pv 3))) (pe_revS (pe_slice (slAny K) (pv 1) (po_some (pv 3)) (po_some (pe_op (opAdd K) (pv 3) pe_int))))) (pe_slice (slAny K) (pv 1) (po_some (pe_op (opAdd K) (pv 3) pe_int)) po_none))))))))))))
  case s => exact (ss_seq (ss_asg (se_c (d := .str [97, 98, 99, 100, 101, 102, 103, 104, 105, 106, 107, 108, 109, 110, 111, 112, 113, 114, 115, 116, 117, 118, 119, 120, 121, 122, 48, 49, 50, 51, 52, 53, 54, 55, 56, 57, 32, 62, 63, 60, 59, 124, 46, 33, 45, 35, 65, 90, 81, 61, 64, 10, 126, 95]) (rv_str (by decide +kernel))) sg_name)
    (ss_seq (ss_par (by decide) (se_call runB_len (sa_cons se_var (sa_cons (se_op s2_add (se_n sn_len (sa_cons se_var sa_nil)) (se_c (d := .int 1) rv_int)) sa_nil))) (se_call runB_len (sa_cons se_var (sa_cons (se_c (d := .int 6) rv_int) sa_nil))))
    (ss_seq (ss_asg (se_op s2_ix se_var (se_call runB_len (sa_cons se_var (sa_cons (se_c (d := .int 54) rv_int) sa_nil)))) sg_name)
    (ss_seq (ss_if (st_test (se_op s2_eq se_var (se_c (d := .int 1) rv_int))) (ss_asg (se_c (d := .str []) (rv_str (by decide +kernel))) sg_name) ss_next)
    (ss_seq (ss_if (st_test (se_op s2_cmp se_var (se_c (d := .int 3) rv_int))) (ss_ret (se_op s2_add (se_op s2_add (se_sl s3_sl se_var so_none (so_some se_var)) se_var) (se_sl s3_sl se_var (so_some (se_op s2_add se_var (se_n sn_int (sa_cons (se_op s2_cmp se_var (se_c (d := .int 0) rv_int)) sa_nil)))) so_none))) ss_next)
    (ss_seq (ss_asg (se_op s2_add se_var (se_call runB_len (sa_cons se_var (sa_cons (se_c (d := .int 9) rv_int) sa_nil)))) sg_name)
    (ss_seq (ss_if (st_test (se_op s2_eq se_var (se_c (d := .int 3) rv_int))) (ss_ret (se_op s2_add (se_sl s3_sl se_var so_none (so_some se_var)) (se_sl s3_sl se_var (so_some se_var) so_none))) ss_next)
    (ss_seq (ss_if (st_test (se_op s2_eq se_var (se_c (d := .int 4) rv_int))) (ss_ret (se_op s2_add (se_op s2_mul (se_c (d := .str [48]) (rv_str (by decide +kernel))) (se_op s2_add (se_c (d := .int 1) rv_int) (se_call runB_len (sa_cons se_var (sa_cons (se_c (d := .int 2) rv_int) sa_nil))))) se_var)) ss_next)
    (ss_ret (se_op s2_add (se_op s2_add (se_sl s3_sl se_var so_none (so_some se_var)) (se_revS (se_sl s3_sl se_var (so_some se_var) (so_some (se_op s2_add se_var (se_c (d := .int 2) rv_int)))))) (se_sl s3_sl se_var (so_some (se_op s2_add se_var (se_c (d := .int 2) rv_int))) so_none)))))))))))
theorem bd_law (T : Tx K mg) : Binds K T.d_law ["_law_script"] [] := FunD.bindsN T.F_law fun _ _ _ _ _ _ us hl => match us, hl with | [_], _ => rfl
theorem ok_law (T : Tx K mg) : FnOk P w K mg base CX0 10 T.a_law T.d_law ["_law_script"] (spOf K (gx T) 1 F_law) := by
  refine T.F_law.ok (k := 9) sc_law sp_len (fun cdv A outer s H vs Q E hr h => ?_)
  refine' ⟨_, PSs.nox ?p, body_ok (N := N_law) (n := 1) (b := b_law) ?s (by decide) h⟩
  case p => exact (pss_cons (ps_set (i := 1) sc_law.nd rfl (Or.inr rfl) (pe_call (ok__law_begun T) (hr.mono (by decide)) rfl T.g__law_begun T.F__law_begun.kp (bd__law_begun T) .nil pass0 (pa_cons (pv 0) pa_nil)))
    (pss_cons (ps_set (i := 2) sc_law.nd rfl (Or.inr rfl) pe_str)
    (pss_cons (ps_for PassesOwn.never rfl (pi_range1 rfl T.n_range (pa_cons pe_int pa_nil)) (pg_name (i := 3) sc_law.nd rfl (Or.inl rfl)) (pss_cons (ps_set (i := 4) sc_law.nd rfl (Or.inl rfl) (pe_lst pa_nil))
    (pss_cons (ps_for PassesOwn.never rfl (pi_range1 rfl T.n_range (pa_cons (pe_op (opAdd K) pe_int (pe_call (ok__law_take T) (hr.mono (by decide)) rfl T.g__law_take T.F__law_take.kp (bd__law_take T) .nil pass0 (pa_cons (pv 1) (pa_cons pe_int pa_nil)))) pa_nil)) (pg_name (i := 5) sc_law.nd rfl (Or.inl rfl)) (pss_one (ps_expr (peBm K PySem.F.plainAttrs_list PySem.F.slot_list_append PySem.F.type_list_append mt_append (pv 4) (pa_cons (pe_join pe_str (pe_lc (own := [("_law_j", 6)]) (g := (gName 6)) rfl sc_law.nd (pi_range1 rfl T.n_range (pa_cons (pe_call (ok__law_take T) (hr.mono (by decide)) rfl T.g__law_take T.F__law_take.kp (bd__law_take T) .nil pass0 (pa_cons (pv 1) (pa_cons pe_int pa_nil))) pa_nil)) (blkOk_by (own := [("_law_j", 6)]) (N := N_law) (sc := defScope s_law) (by decide +kernel)) (fun _ _ _ _ _ => (pg_name (i := 6) sc_law.nd rfl (Or.inl rfl))) (fun _ _ _ _ _ => pts_nil) (fun _ _ _ _ _ => (pe_ix (ixSeq K) (pv 2) (pe_call (ok__law_take T) (hr.mono (by decide)) rfl T.g__law_take T.F__law_take.kp (bd__law_take T) .nil pass0 (pa_cons (pv 1) (pa_cons pe_int pa_nil))) (fun _ _ => rfl))))) pa_nil)))))
    (pss_cons (ps_set (i := 7) sc_law.nd rfl (Or.inl rfl) (pe_call (ok_packed T) (hr.mono (by decide)) rfl T.g_packed T.F_packed.kp (bd_packed T) .nil pass0 (pa_cons (pv 4) pa_nil)))
    (pss_cons (ps_for PassesOwn.never rfl (pi_range1 rfl T.n_range (pa_cons (pe_callB (callLen K) rfl T.n_len (by decide +kernel) (pa_cons (pv 7) pa_nil)) pa_nil)) (pg_name (i := 8) sc_law.nd rfl (Or.inl rfl)) (pss_one (ps_if (pt_cmp (pc_notN (pe_call (ok_unpacked T) (hr.mono (by decide)) rfl T.g_unpacked T.F_unpacked.kp (bd_unpacked T) .nil pass0 (pa_cons (pe_slice (slAny K) (pv 7) po_none (po_some (pv 8))) pa_nil))) rfl) (pss_one (ps_ret pe_bl)) pss_nil)))
    (pss_one (ps_for PassesOwn.never rfl (pi_range1 rfl T.n_range (pa_cons pe_int pa_nil)) (pg_name (i := 9) sc_law.nd rfl (Or.inl rfl)) (pss_cons (ps_set (i := 10) sc_law.nd rfl (Or.inl rfl) (pv 7))
    (pss_cons (ps_for PassesOwn.never rfl (pi_range1 rfl T.n_range (pa_cons (pe_op (opAdd K) pe_int (pe_call (ok__law_take T) (hr.mono (by decide)) rfl T.g__law_take T.F__law_take.kp (bd__law_take T) .nil pass0 (pa_cons (pv 1) (pa_cons pe_int pa_nil)))) pa_nil)) (pg_name (i := 11) sc_law.nd rfl (Or.inl rfl)) (pss_one (ps_set (i := 10) sc_law.nd rfl (Or.inl rfl) (pe_call (ok__law_otherwise T) (hr.mono (by decide)) rfl T.g__law_otherwise T.F__law_otherwise.kp (bd__law_otherwise T) .nil pass0 (pa_cons (pv 1) (pa_cons (pv 10) pa_nil))))))
    (pss_one (ps_if (pt_not (pt_val (pe_call (ok__law_alike T 8) (hr.mono (by omega)) rfl T.g__law_alike T.F__law_alike.kp (bd__law_alike T) .nil pass0 (pa_cons (pe_call (ok_unpacked T) (hr.mono (by decide)) rfl T.g_unpacked T.F_unpacked.kp (bd_unpacked T) .nil pass0 (pa_cons (pv 10) pa_nil)) (pa_cons (pe_call (ok__law_unpacked T) (hr.mono (by decide)) rfl T.g__law_unpacked T.F__law_unpacked.kp (bd__law_unpacked T) .nil pass0 (pa_cons (pv 10) pa_nil)) pa_nil))))) (pss_one (ps_ret pe_bl)) pss_nil)))))))))))
    (pss_cons (ps_set (i := 12) sc_law.nd rfl (Or.inl rfl) (pe_lst (pa_cons pe_str (pa_cons pe_str (pa_cons pe_str (pa_cons pe_str (pa_cons pe_str (pa_cons pe_str (pa_cons pe_str (pa_cons pe_str (pa_cons pe_str (pa_cons pe_str (pa_cons pe_str (pa_cons pe_str pa_nil))))))))))))))
    (pss_cons (ps_for PassesOwn.never rfl (piList K (pv 12)) (pg_name (i := 10) sc_law.nd rfl (Or.inl rfl)) (pss_one (ps_if (pt_not (pt_val (pe_call (ok__law_alike T 8) (hr.mono (by omega)) rfl T.g__law_alike T.F__law_alike.kp (bd__law_alike T) .nil pass0 (pa_cons (pe_call (ok_unpacked T) (hr.mono (by decide)) rfl T.g_unpacked T.F_unpacked.kp (bd_unpacked T) .nil pass0 (pa_cons (pv 10) pa_nil)) (pa_cons (pe_call (ok__law_unpacked T) (hr.mono (by decide)) rfl T.g__law_unpacked T.F__law_unpacked.kp (bd__law_unpacked T) .nil pass0 (pa_cons (pv 10) pa_nil)) pa_nil))))) (pss_one (ps_ret pe_bl)) pss_nil)))
    (pss_one (ps_ret pe_bl)))))))
  case s => exact (ss_seq (ss_asg (se_call runB_len (sa_cons se_var sa_nil)) sg_name)
    (ss_seq (ss_asg (se_c (d := .str [97, 98, 99, 100, 101, 102, 103, 104, 105, 106, 107, 108, 109, 110, 111, 112, 113, 114, 115, 116, 117, 118, 119, 120, 121, 122, 48, 49, 50, 51, 52, 53, 54, 55, 56, 57, 32, 62, 63, 60, 59]) (rv_str (by decide +kernel))) sg_name)
    (ss_seq (ss_for (si_r1 (sa_cons (se_c (d := .int 3) rv_int) sa_nil)) sg_name (ss_seq (ss_acc (sf_lst sa_nil))
    (ss_seq (ss_for (si_r1 (sa_cons (se_op s2_add (se_c (d := .int 1) rv_int) (se_call runB_len (sa_cons se_var (sa_cons (se_c (d := .int 6) rv_int) sa_nil)))) sa_nil)) sg_name (ss_app (se_tm1 sm_join (se_c (d := .str []) (rv_str (by decide +kernel))) (se_of (sf_lc (vs := [6]) (si_r1 (sa_cons (se_call runB_len (sa_cons se_var (sa_cons (se_c (d := .int 9) rv_int) sa_nil))) sa_nil)) (sp_name (by decide)) st_yes (se_op s2_ix se_var (se_call runB_len (sa_cons se_var (sa_cons (se_c (d := .int 41) rv_int) sa_nil)))))))))
    (ss_seq (ss_frz (ss_asg (se_call runB_len (sa_cons se_var sa_nil)) sg_name))
    (ss_seq (ss_for (si_r1 (sa_cons (se_n sn_len (sa_cons se_var sa_nil)) sa_nil)) sg_name (ss_if (st_B (se_notN (se_call runB_len (sa_cons (se_sl s3_sl se_var so_none (so_some se_var)) sa_nil)))) (ss_ret (se_c (v := .bl false) (d := .bl false) rv_bl)) ss_next))
    (ss_for (si_r1 (sa_cons (se_c (d := .int 6) rv_int) sa_nil)) sg_name (ss_seq (ss_asg se_var sg_name)
    (ss_seq (ss_for (si_r1 (sa_cons (se_op s2_add (se_c (d := .int 1) rv_int) (se_call runB_len (sa_cons se_var (sa_cons (se_c (d := .int 2) rv_int) sa_nil)))) sa_nil)) sg_name (ss_asg (se_call runB_len (sa_cons se_var (sa_cons se_var sa_nil))) sg_name))
    (ss_if (st_not (st_B (se_call (_law_alike_len _) (sa_cons (se_call runB_len (sa_cons se_var sa_nil)) (sa_cons (se_call runB_len (sa_cons se_var sa_nil)) sa_nil))))) (ss_ret (se_c (v := .bl false) (d := .bl false) rv_bl)) ss_next)))))))))
    (ss_seq (ss_asg (se_of (sf_lst (sa_cons (se_c (d := .str []) (rv_str (by decide +kernel))) (sa_cons (se_c (d := .str [33]) (rv_str (by decide +kernel))) (sa_cons (se_c (d := .str [46, 46, 33]) (rv_str (by decide +kernel))) (sa_cons (se_c (d := .str [48, 46, 48, 46, 33]) (rv_str (by decide +kernel))) (sa_cons (se_c (d := .str [49, 46, 49, 46, 97, 33]) (rv_str (by decide +kernel))) (sa_cons (se_c (d := .str [49, 46, 49, 46, 97]) (rv_str (by decide +kernel))) (sa_cons (se_c (d := .str [49, 46, 50, 46, 97, 33]) (rv_str (by decide +kernel))) (sa_cons (se_c (d := .str [48, 49, 46, 49, 46, 97, 33]) (rv_str (by decide +kernel))) (sa_cons (se_c (d := .str [49, 46, 48, 49, 46, 97, 33]) (rv_str (by decide +kernel))) (sa_cons (se_c (d := .str [32, 49, 46, 49, 46, 97, 33]) (rv_str (by decide +kernel))) (sa_cons (se_c (d := .str [49, 46, 49, 46, 97, 33, 33]) (rv_str (by decide +kernel))) (sa_cons (se_c (d := .str [45, 49, 46, 49, 46, 97, 33]) (rv_str (by decide +kernel))) sa_nil)))))))))))))) sg_name)
    (ss_seq (ss_for (si_list se_var) sg_name (ss_if (st_not (st_B (se_call (_law_alike_len _) (sa_cons (se_call runB_len (sa_cons se_var sa_nil)) (sa_cons (se_call runB_len (sa_cons se_var sa_nil)) sa_nil))))) (ss_ret (se_c (v := .bl false) (d := .bl false) rv_bl)) ss_next))
    (ss_ret (se_c (v := .bl true) (d := .bl true) rv_bl)))))))
end
end K06

set_option maxRecDepth 100000
set_option maxHeartbeats 2000000
/-! the entry of a law -/
namespace AH
open PySem L2 TL
def Wd.start (H : Hp) : Wd := ⟨fun _ => none, Sto.nil0, fun _ => False, H⟩
theorem start_ex {H : Hp} {b : Addr} : ¬ (Wd.start H).Ex b := fun z => by
  rcases z with z | ⟨l, q⟩
  · exact z
  · cases q
theorem start_ok {K : PySem.W.Frag} {G : Gx} {H : Hp} : Ok K G (Wd.start H) := by
  refine ⟨fun l o e => ?_, fun l l' b e => ?_, fun l e => rfl, fun l e => rfl, fun b z => ?_, fun b z => ?_⟩
  · cases e
  · cases e
  · exact absurd z id
  · exact absurd z id
theorem sp_enter {K : PySem.W.Frag} {G : Gx} {F : Fn} {ns : List Int} {S' : Sto} {a : Addr} {H : Hp} {E : XK} (h : F [.scr ns] Sto.nil0 = some (.v (.bl true), S')) (hO : Only H) (hs : SqL K H a (ns.map V.int)) : spOf K G 1 F [.ref a] H (fun v _ => v = .bl true) E := by
  refine ⟨Wd.start H, [.scr ns], .v (.bl true), S', rfl, rfl, start_ok, .cons (.scr ?_) .nil, h, ?_⟩
  · rcases hs with (r | ⟨o, r⟩) | r
    · rcases hO a with z | ⟨o, xs, z⟩
      · rw [r] at z
        cases z
      · rw [r] at z
        cases z
    · exact .inl ⟨o, r, start_ex⟩
    · exact .inr r
  · intro v w' e f o r
    cases r
    rfl
end AH

set_option maxRecDepth 100000
set_option maxHeartbeats 0
namespace K06
open PySem PySem.Spec PyProof.Rows L2 AH TL
def D_sum_of : He.DefD := ⟨("sum_of", none), "sum_of", "sum_of", defArgs s_sum_of, defBody s_sum_of, defScope s_sum_of, [], []⟩
def D_packed : He.DefD := ⟨("packed", none), "packed", "packed", defArgs s_packed, defBody s_packed, defScope s_packed, [], []⟩
def D_number_of : He.DefD := ⟨("number_of", none), "number_of", "number_of", defArgs s_number_of, defBody s_number_of, defScope s_number_of, [], []⟩
def D_unpacked : He.DefD := ⟨("unpacked", none), "unpacked", "unpacked", defArgs s_unpacked, defBody s_unpacked, defScope s_unpacked, [], []⟩
def D__law_begun : He.DefD := ⟨("_law_begun", none), "_law_begun", "_law_begun", defArgs s__law_begun, defBody s__law_begun, defScope s__law_begun, [], []⟩
def D__law_take : He.DefD := ⟨("_law_take", none), "_law_take", "_law_take", defArgs s__law_take, defBody s__law_take, defScope s__law_take, [], []⟩
def D__law_alike : He.DefD := ⟨("_law_alike", none), "_law_alike", "_law_alike", defArgs s__law_alike, defBody s__law_alike, defScope s__law_alike, [], []⟩
def D__law_packed : He.DefD := ⟨("_law_packed", none), "_law_packed", "_law_packed", defArgs s__law_packed, defBody s__law_packed, defScope s__law_packed, [], []⟩
def D__law_unpacked : He.DefD := ⟨("_law_unpacked", none), "_law_unpacked", "_law_unpacked", defArgs s__law_unpacked, defBody s__law_unpacked, defScope s__law_unpacked, [], []⟩
def D__law_otherwise : He.DefD := ⟨("_law_otherwise", none), "_law_otherwise", "_law_otherwise", defArgs s__law_otherwise, defBody s__law_otherwise, defScope s__law_otherwise, [], []⟩
def D_law : He.DefD := ⟨("law", none), "law", "law", defArgs s_law, defBody s_law, defScope s_law, [], []⟩
def fn0 : List He.DefD := [D_sum_of, D_packed, D_number_of, D_unpacked, D__law_begun, D__law_take, D__law_alike, D__law_packed, D__law_unpacked, D__law_otherwise, D_law]
def fn : List He.DefD := fn0
def fa0 : List He.Fa := [.str "BETWEEN" "|", .str "CLOSE" "!", .str "FIGURES" "0123456789", .int "MOST_FIGURES" 6, .str "POINT" ".", .int "RING" 9973, .str "SIGNS" "abcdefghijklmnopqrstuvwxyz0123456789 >?<;", .free "bool", .free "int", .free "isinstance", .free "len", .free "list", .free "range", .free "str", .free "tuple", .glo "sum_of", .glo "packed", .glo "number_of", .glo "unpacked", .glo "_law_begun", .glo "_law_take", .glo "_law_alike", .glo "_law_packed", .glo "_law_unpacked", .glo "_law_otherwise", .glo "law"]
def fa : List He.Fa := fa0
def nms0 : List PySem.Str := ["HallError", "BadFields", "LETTERS", "FIGURES", "SIGNS", "BETWEEN", "POINT", "CLOSE", "RING", "MOST_FIGURES", "sum_of", "packed", "number_of", "unpacked", "_law_begun", "_law_take", "_law_alike", "_law_packed", "_law_unpacked", "_law_otherwise"]
def nms : List PySem.Str := nms0
abbrev R : PySem.W.OpenRow := PySem.W.OpenLaw.row PySem.Challenge.rw_attachhall_k06_texts_that_are_no_letter
abbrev hk : PySem.W.Hook := He.hookD 5 fa fn
def ob (s : PySem.W.SharedT) : He.AlD := He.obsDG 5 fa fn (HandSHeadRun.getT s)
theorem ob_eq (s : PySem.W.SharedT) : ob s = hk.obs s.abs := He.obsDG_eq (HandSHeadRun.getT_eq s)
theorem run (w : World) : HandSHeadRun.RunEq R (PySem.W.view R.prog [23]) hk ob 1500 nms w := by
  intro os
  kernel_rfl
theorem mkT {K : PySem.W.Frag} {h : Heap} {mg : Str → Option Value} (X : K.In h) (G : h.Ns mainGlobals mg) (c : He.SaysD fa fn K) : ∃ T : Tx K mg, T.a_law = He.ga K "law" := by
  obtain ⟨d_sum_of, F_sum_of⟩ := c.def_ 0 (d := D_sum_of) rfl
  obtain ⟨d_packed, F_packed⟩ := c.def_ 1 (d := D_packed) rfl
  obtain ⟨d_number_of, F_number_of⟩ := c.def_ 2 (d := D_number_of) rfl
  obtain ⟨d_unpacked, F_unpacked⟩ := c.def_ 3 (d := D_unpacked) rfl
  obtain ⟨d__law_begun, F__law_begun⟩ := c.def_ 4 (d := D__law_begun) rfl
  obtain ⟨d__law_take, F__law_take⟩ := c.def_ 5 (d := D__law_take) rfl
  obtain ⟨d__law_alike, F__law_alike⟩ := c.def_ 6 (d := D__law_alike) rfl
  obtain ⟨d__law_packed, F__law_packed⟩ := c.def_ 7 (d := D__law_packed) rfl
  obtain ⟨d__law_unpacked, F__law_unpacked⟩ := c.def_ 8 (d := D__law_unpacked) rfl
  obtain ⟨d__law_otherwise, F__law_otherwise⟩ := c.def_ 9 (d := D__law_otherwise) rfl
  obtain ⟨d_law, F_law⟩ := c.def_ 10 (d := D_law) rfl
  exact ⟨{
    k_BETWEEN := He.str_ok X G (c.fact 0 (f := .str "BETWEEN" "|") rfl),
    k_CLOSE := He.str_ok X G (c.fact 1 (f := .str "CLOSE" "!") rfl),
    k_FIGURES := He.str_ok X G (c.fact 2 (f := .str "FIGURES" "0123456789") rfl),
    k_MOST_FIGURES := He.int_ok X G (c.fact 3 (f := .int "MOST_FIGURES" 6) rfl),
    k_POINT := He.str_ok X G (c.fact 4 (f := .str "POINT" ".") rfl),
    k_RING := He.int_ok X G (c.fact 5 (f := .int "RING" 9973) rfl),
    k_SIGNS := He.str_ok X G (c.fact 6 (f := .str "SIGNS" "abcdefghijklmnopqrstuvwxyz0123456789 >?<;") rfl),
    n_bool := He.free_ok X G (c.fact 7 (f := .free "bool") rfl),
    n_int := He.free_ok X G (c.fact 8 (f := .free "int") rfl),
    n_isinstance := He.free_ok X G (c.fact 9 (f := .free "isinstance") rfl),
    n_len := He.free_ok X G (c.fact 10 (f := .free "len") rfl),
    n_list := He.free_ok X G (c.fact 11 (f := .free "list") rfl),
    n_range := He.free_ok X G (c.fact 12 (f := .free "range") rfl),
    n_str := He.free_ok X G (c.fact 13 (f := .free "str") rfl),
    n_tuple := He.free_ok X G (c.fact 14 (f := .free "tuple") rfl),
    a_sum_of := He.ga K "sum_of",
    d_sum_of := d_sum_of,
    F_sum_of := F_sum_of,
    g_sum_of := He.glo_ok X G (c.fact 15 (f := .glo "sum_of") rfl),
    a_packed := He.ga K "packed",
    d_packed := d_packed,
    F_packed := F_packed,
    g_packed := He.glo_ok X G (c.fact 16 (f := .glo "packed") rfl),
    a_number_of := He.ga K "number_of",
    d_number_of := d_number_of,
    F_number_of := F_number_of,
    g_number_of := He.glo_ok X G (c.fact 17 (f := .glo "number_of") rfl),
    a_unpacked := He.ga K "unpacked",
    d_unpacked := d_unpacked,
    F_unpacked := F_unpacked,
    g_unpacked := He.glo_ok X G (c.fact 18 (f := .glo "unpacked") rfl),
    a__law_begun := He.ga K "_law_begun",
    d__law_begun := d__law_begun,
    F__law_begun := F__law_begun,
    g__law_begun := He.glo_ok X G (c.fact 19 (f := .glo "_law_begun") rfl),
    a__law_take := He.ga K "_law_take",
    d__law_take := d__law_take,
    F__law_take := F__law_take,
    g__law_take := He.glo_ok X G (c.fact 20 (f := .glo "_law_take") rfl),
    a__law_alike := He.ga K "_law_alike",
    d__law_alike := d__law_alike,
    F__law_alike := F__law_alike,
    g__law_alike := He.glo_ok X G (c.fact 21 (f := .glo "_law_alike") rfl),
    a__law_packed := He.ga K "_law_packed",
    d__law_packed := d__law_packed,
    F__law_packed := F__law_packed,
    g__law_packed := He.glo_ok X G (c.fact 22 (f := .glo "_law_packed") rfl),
    a__law_unpacked := He.ga K "_law_unpacked",
    d__law_unpacked := d__law_unpacked,
    F__law_unpacked := F__law_unpacked,
    g__law_unpacked := He.glo_ok X G (c.fact 23 (f := .glo "_law_unpacked") rfl),
    a__law_otherwise := He.ga K "_law_otherwise",
    d__law_otherwise := d__law_otherwise,
    F__law_otherwise := F__law_otherwise,
    g__law_otherwise := He.glo_ok X G (c.fact 24 (f := .glo "_law_otherwise") rfl),
    a_law := He.ga K "law",
    d_law := d_law,
    F_law := F_law,
    g_law := He.glo_ok X G (c.fact 25 (f := .glo "law") rfl) }, rfl⟩
end K06
open PySem PySem.W PySem.Calls PyProof.Rows
theorem PySem.Challenge.cw_attachhall_k06_texts_that_are_no_letter_holds : PySem.Challenge.rw_attachhall_k06_texts_that_are_no_letter.Holds := by
  w_on; o_law
  refine HandSHeadRun.head_any (r := OpenLaw.row PySem.Challenge.rw_attachhall_k06_texts_that_are_no_letter) (q := view (OpenLaw.row PySem.Challenge.rw_attachhall_k06_texts_that_are_no_letter).prog [23]) (H := K06.hk) (ob := K06.ob) (M := 1500) (loose := K06.nms) (d := HandSHeadRun.topDef (OpenLaw.row PySem.Challenge.rw_attachhall_k06_texts_that_are_no_letter).prog 23) (kwd := []) K06.ob_eq
    (by kernel_rfl) (fun s => by kernel_rfl) K06.run (by kernel_rfl) (by kernel_rfl) (by kernel_rfl) (by rfl) (by first | assumption | decide +kernel) (by decide +kernel) ⟨rfl, rfl, rfl, rfl, rfl, by decide +kernel⟩ ?hw ?hc
  case hw => w_witness2
  case hc =>
    refine L2.walk_ofE (l := PySem.Challenge.rw_attachhall_k06_texts_that_are_no_letter) (n := 63) (k := 10) (x := "_law_script") (CX := L2.CX0) rfl (by decide) (by kernel_rfl) ⟨rfl, by decide, by decide⟩ ?F (fun _ _ _ _ z => z)
    intro w mg fa h Y G hmg0
    obtain ⟨K, KX, c⟩ := Y
    have hmg : mg ("law" : PySem.Str) = some (.ref fa) := by
      have e : (HandSHeadRun.topDef (OpenLaw.row PySem.Challenge.rw_attachhall_k06_texts_that_are_no_letter).prog 23).name = ("law" : PySem.Str) := by kernel_rfl
      rw [← e]
      exact hmg0
    obtain ⟨T, hT⟩ := K06.mkT KX G c
    have e : fa = T.a_law := by
      have q := hmg.symm.trans T.g_law
      cases q
      rfl
    subst e
    refine ⟨K, T.d_law, AH.spOf K (K06.gx T) 1 K06.F_law, KX, fun s v => T.F_law.bindsA (ps := ["_law_script"]) (fun _ _ _ _ _ _ us hl => match us, hl with | [_], _ => rfl) s [v] rfl, fun H a ns hl hO hS => ?_, fun base _ _ => K06.ok_law T⟩
    obtain ⟨S', hp⟩ := K06.law_true ns hl
    exact AH.sp_enter hp hO hS
