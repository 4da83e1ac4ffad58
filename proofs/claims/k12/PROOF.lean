import PyProof.Rows.All
import HandS.HeadHook1
import HandS.HeadHook2
import HandS.HeadHook3
import HandS.HeadHook4
import HandS.EndTab
import HandS.ExcIs
import HandS.ExcField
import HandS.ExcInit
import HandS.ExcOwn
import Wide.All
import OpenK.AllK
import Wide.FinOn
import PyProof.EqAt
import PyProof.EqKinds
import PyProof.TupleCall
import HandS.Base
import HandS.Call
import HandS.List
import HandS.Comp
import HandS.Dict
import HandS.Iter
import HandS.Text
import HandS.More
import HandS.Ends
import HandS.Words
import HandS.Lambda
import HandS.IsInst
import HandS.Replace
import HandS.RaiseMore
import HandS.Defaults
import HandS.Style
import PyProof.Draws
import PyProof.EnumMake
import PyProof.EnumFor
import HandS.Small
import HandS.NoneIn
import HandS.Deep
import HandS.Walk
import KE.KEqNest
import PyProof.DictUpdate
import HandS.WordsDict
import HandS.SetFor
import KE.KExcIs
import PySem.Challenge.RW_attachhall_k12_sessions_of_one_name
import Lean
import HandS.HeadEnd
import HandS.Head0
import HandS.Head1
import HandS.Head2
set_option Elab.async false
set_option linter.all false
set_option hygiene false
namespace AH
end AH
namespace TL
end TL
set_option maxRecDepth 100000
set_option maxHeartbeats 2000000
namespace AH
open PySem L2 TL PySem.Spec PyProof.Rows
def entI (e : DictEntry) : Option (Str × Int × Int) := match e.key, e.val with
  | .str x _, .int i _ => some (x, e.hash, i)
  | _, _ => none
def dicX (K : PySem.W.Frag) (a : Addr) : Option (List (Option (Str × Int × Int))) := match K.lookup a with
  | some ⟨.type c, none, .dict es _, sl⟩ => (match decide (c = "dict") && (sl.isEmpty && !(a == sysModules)) with
    | true => some (es.toList.map entI)
    | false => none)
  | _ => none
abbrev Kvs := List (List Nat × Int)
def kvX (P : Params) (kvs : Kvs) : List (Option (Str × Int × Int)) := kvs.map fun q => some (⟨q.1.toArray⟩, PyData.keyHash P ⟨q.1.toArray⟩, q.2)
abbrev TabX : Type := Str × Kvs
abbrev AlX : Type := He.AlD × List (Option (List (Option (Str × Int × Int))))
def obsX (fa : List He.Fa) (fn : List He.DefD) (ts : List TabX) (K : PySem.W.Frag) : AlX := (He.obsD fa fn K, ts.map fun t => dicX K (He.ga K t.1))
def valX (fn : List He.DefD) (ts : List TabX) (w : World) : AlX := (He.valD fn, ts.map fun t => some (kvX w.params t.2))
def SaysX (fa : List He.Fa) (fn : List He.DefD) (ts : List TabX) (w : World) (K : PySem.W.Frag) : Prop := obsX fa fn ts K = valX fn ts w
theorem SaysX.d {fa : List He.Fa} {fn : List He.DefD} {ts : List TabX} {w : World} {K : PySem.W.Frag} (c : SaysX fa fn ts w K) : He.SaysD fa fn K := congrArg (fun z : AlX => z.1) c
end AH
set_option maxRecDepth 100000
set_option maxHeartbeats 2000000
namespace AH
open PySem L2 TL PySem.Spec PyProof.Rows
abbrev AlE : Type := AlX × Bool
abbrev FragB : Type := PySem.W.Frag → Bool
def obsEK (fa : List He.Fa) (fn : List He.DefD) (ts : List TabX) (tf : List He.Defn) (ex : FragB) (g : Addr → Option Obj) (K : PySem.W.Frag) : AlE := (obsX fa fn ts K, ex K && He.tabsB g tf K)
def obsEG (n : Nat) (fa : List He.Fa) (fn : List He.DefD) (ts : List TabX) (tf : List He.Defn) (ex : FragB) (g : Addr → Option Obj) : AlE := obsEK fa fn ts tf ex g (He.frT g (He.asD g n ++ [cStatics]))
structure SaysE (fa : List He.Fa) (fn : List He.DefD) (ts : List TabX) (tf : List He.Defn) (ex : FragB) (w : World) (h : Heap) (K : PySem.W.Frag) : Prop where
  x : SaysX fa fn ts w K
  ex : ex K = true
  cd : ∀ p ∈ tf, PySem.W.codeHdIn K (He.codeOf K p) (He.tabOf K (He.codeOf K p)) = true
  no : ∀ p ∈ tf, K.lookup (He.tabOf K (He.codeOf K p)) = none
  em : ∀ p ∈ tf, h.get? (He.tabOf K (He.codeOf K p)) = some { cls := .none, data := .fields #[] }
theorem saysE_of {n : Nat} {fa : List He.Fa} {fn : List He.DefD} {ts : List TabX} {tf : List He.Defn} {ex : FragB} {w : World} {h : Heap} (e : obsEG n fa fn ts tf ex h.get? = (valX fn ts w, true)) : SaysE fa fn ts tf ex w h (He.frT h.get? (He.asD h.get? n ++ [cStatics])) := by
  have e1 : obsX fa fn ts (He.frT h.get? (He.asD h.get? n ++ [cStatics])) = valX fn ts w := congrArg Prod.fst e
  have e2 : (ex (He.frT h.get? (He.asD h.get? n ++ [cStatics])) && He.tabsB h.get? tf (He.frT h.get? (He.asD h.get? n ++ [cStatics]))) = true := congrArg Prod.snd e
  obtain ⟨h1, h2⟩ := Bool.and_eq_true_iff.mp e2
  have each := fun p hp => Bool.and_eq_true_iff.mp (List.all_eq_true.mp h2 p hp)
  have emp : ∀ p ∈ tf, ∃ o, h.get? (He.tabOf (He.frT h.get? (He.asD h.get? n ++ [cStatics])) (He.codeOf (He.frT h.get? (He.asD h.get? n ++ [cStatics])) p)) = some o ∧ He.emptyTab o = true := by
    intro p hp
    have z := (each p hp).2
    show ∃ o, h.get? (He.cT (He.frT h.get? (He.asD h.get? n ++ [cStatics])) p).2 = some o ∧ _
    generalize h.get? (He.cT (He.frT h.get? (He.asD h.get? n ++ [cStatics])) p).2 = y at z
    cases y with
    | none => cases z
    | some o => exact ⟨o, rfl, z⟩
  refine ⟨e1, h1, fun p hp => (each p hp).1, fun p hp => ?_, fun p hp => ?_⟩
  · obtain ⟨o, q, z⟩ := emp p hp
    exact He.frT_none q z
  · obtain ⟨o, q, z⟩ := emp p hp
    rw [q, He.emptyTab_eq z]
def hookE (n : Nat) (fa : List He.Fa) (fn : List He.DefD) (ts : List TabX) (tf : List He.Defn) (ex : FragB) : PySem.W.Hook where
  α := AlE
  obs := fun s => obsEG n fa fn ts tf ex s.heap.get?
  val := fun w => (valX fn ts w, true)
  says := fun w h => ∃ K : PySem.W.Frag, K.In h ∧ SaysE fa fn ts tf ex w h K
  of := fun _ _ e => ⟨_, He.frT_in, saysE_of e⟩
  keeps := fun _ _ _ z k => by
    obtain ⟨K, hK, c⟩ := z
    exact ⟨K, PySem.W.Frag.In.keeps hK k, c.x, c.ex, c.cd, c.no, fun p hp => k _ _ (c.em p hp)⟩
theorem obsEG_eq {n : Nat} {fa : List He.Fa} {fn : List He.DefD} {ts : List TabX} {tf : List He.Defn} {ex : FragB} {g : Addr → Option Obj} {s : Shared} (h : ∀ a, g a = s.heap.get? a) : obsEG n fa fn ts tf ex g = (hookE n fa fn ts tf ex).obs s := by
  have e : g = s.heap.get? := funext h
  rw [e]
  rfl
def excB (K : PySem.W.Frag) (C : Addr) : Bool := xfB K C && (decide (PySem.W.findIn K (.ref C) "__class__" = some (some (.builtin "object.__class__"))) &&
  (decide (PySem.W.specialIn K (.builtin "object.__class__") "__get__" = some (some (.builtin "getset_descriptor.__get__"))) && (decide (PySem.W.takesIn K (.builtin "object.__class__") = some true) && decide (PySem.W.mroIn K C (.type "object") = some true))))
theorem excB_ok {K : PySem.W.Frag} {C : Addr} (h : excB K C = true) : ExcC K C ∧ XfC K C := by
  unfold excB at h
  simp only [Bool.and_eq_true, decide_eq_true_eq] at h
  obtain ⟨h0, h1, h2, h3, h4⟩ := h
  have x := xfB_ok h0
  exact ⟨⟨x.ga, x.gg, x.exC, x.hdC, h1, h2, h3, h4⟩, x⟩
def kindsX : List Str := ["BadCount", "BadFields", "BadLook", "BadSign", "BadSize", "BadText", "NoLook"]
/-- what told's except suite asks -/
def toldB (K : PySem.W.Frag) : Bool := kindsX.all fun x => excB K (He.ga K x) && (decide (PySem.W.exmOne K (.ref (He.ga K x)) (.ref (He.ga K "HallError")) = some true) && (decide (PySem.W.kitOne K (.ref (He.ga K x)) (.type "ValueError") = some true) &&
  kindsX.all fun y => decide (PySem.W.kitOne K (.ref (He.ga K x)) (.ref (He.ga K y)) = some (decide (x = y)))))
structure ToldK (K : PySem.W.Frag) : Prop where
  c : ∀ x ∈ kindsX, ExcC K (He.ga K x) ∧ XfC K (He.ga K x)
  m : ∀ x ∈ kindsX, PySem.W.exmOne K (.ref (He.ga K x)) (.ref (He.ga K "HallError")) = some true
  v : ∀ x ∈ kindsX, PySem.W.kitOne K (.ref (He.ga K x)) (.type "ValueError") = some true
  k : ∀ x ∈ kindsX, ∀ y ∈ kindsX, PySem.W.kitOne K (.ref (He.ga K x)) (.ref (He.ga K y)) = some (decide (x = y))
theorem toldB_ok {K : PySem.W.Frag} (h : toldB K = true) : ToldK K := by
  have e := fun x hx => List.all_eq_true.mp h x hx
  simp only [Bool.and_eq_true, decide_eq_true_eq, List.all_eq_true] at e
  exact ⟨fun x hx => excB_ok (e x hx).1, fun x hx => (e x hx).2.1, fun x hx => (e x hx).2.2.1, fun x hx => (e x hx).2.2.2⟩
/-- a class with an own __init__ that stores f -/
def oexB (K : PySem.W.Frag) (x f : Str) : Bool := (match K.lookup (He.ga K x) with
    | some ⟨.type t, _, .cls cd, sl⟩ => (match cd.mro, sl.toList with
      | .ref C :: bm, [_, _, _, _, some (.builtin n), _] => decide (t = "type") && (decide (C = He.ga K x) && (decide (n = "ValueError.__new__") && (!cd.hasDel && (cd.hasDict && PySem.HandSPX.refsVE bm))))
      | _, _ => false)
    | _ => false) && (decide (PySem.W.findIn K (.ref (He.ga K x)) "__setattr__" = some (some (.builtin "object.__setattr__"))) && (decide (PySem.W.typeIn K (.ref (He.ga K x)) = some (.type "type")) && (PySem.W.keepIn K (.ref (He.ga K x)) &&
    (decide (PySem.W.findIn K (.ref (He.ga K x)) f = some none) && (decide (PySem.W.subIn K (.ref (He.ga K x)) (.type "BaseException") = some true) &&
    (decide (PySem.W.findIn K (.ref (He.ga K x)) "__init__" = some (some (.ref (He.ma K (He.ga K x) "__init__")))) && decide (PySem.W.typeIn K (.ref (He.ma K (He.ga K x) "__init__")) = some (.type "function"))))))))
structure OexK (K : PySem.W.Frag) (x f : Str) : Prop where
  o : OexC K (He.ga K x)
  n : PySem.W.findIn K (.ref (He.ga K x)) f = some none
  i : PySem.W.findIn K (.ref (He.ga K x)) "__init__" = some (some (.ref (He.ma K (He.ga K x) "__init__")))
  t : PySem.W.typeIn K (.ref (He.ma K (He.ga K x) "__init__")) = some (.type "function")
theorem oexB_ok {K : PySem.W.Frag} {x f : Str} (h : oexB K x f = true) : OexK K x f := by
  unfold oexB at h
  rw [Bool.and_eq_true] at h
  obtain ⟨h0, h⟩ := h
  simp only [Bool.and_eq_true, decide_eq_true_eq] at h
  obtain ⟨h1, h2, h3, h4, h5, h6, h7⟩ := h
  refine ⟨⟨?_, h1, h5, h2, h3⟩, h4, h6, h7⟩
  split at h0
  · rename_i t dd cd sl hl
    split at h0
    · rename_i C bm k0 k1 k2 k3 n k5 hm hs
      simp only [Bool.and_eq_true, decide_eq_true_eq, Bool.not_eq_true'] at h0
      obtain ⟨rfl, rfl, rfl, hd, hh, hr⟩ := h0
      obtain ⟨nm, bs, mro, ns, qn, hd', sn, sub, ab, col, del⟩ := cd
      dsimp only at hm hd hh
      subst hm hd hh
      obtain ⟨sl⟩ := sl
      dsimp only at hs
      subst hs
      exact ⟨nm, qn, ns, bs, bm, sn, sub, ab, col, dd, k0, k1, k2, k3, k5, hl, hr⟩
    · cases h0
  · cases h0
/-- HallError.__init__(self, ..) goes to ValueError's -/
def hinB (K : PySem.W.Frag) : Bool := decide (PySem.W.specialIn K (.ref (He.ga K "HallError")) "__getattribute__" = some (some (.builtin "type.__getattribute__"))) && (PySem.W.readsIn K (He.ga K "HallError") (.type "type") &&
  (match PySem.W.findCls K (.ref (He.ga K "HallError")) (.type "type") "__init__" with
    | some (.val (.builtin s)) => decide (s = "ValueError.__init__")
    | _ => false))
structure HinK (K : PySem.W.Frag) : Prop where
  g : PySem.W.specialIn K (.ref (He.ga K "HallError")) "__getattribute__" = some (some (.builtin "type.__getattribute__"))
  r : PySem.W.readsIn K (He.ga K "HallError") (.type "type") = true
  f : PySem.W.findCls K (.ref (He.ga K "HallError")) (.type "type") "__init__" = some (.val (.builtin "ValueError.__init__"))
theorem hinB_ok {K : PySem.W.Frag} (h : hinB K = true) : HinK K := by
  unfold hinB at h
  rw [Bool.and_eq_true, Bool.and_eq_true, decide_eq_true_eq] at h
  obtain ⟨h1, h2, h3⟩ := h
  refine ⟨h1, h2, ?_⟩
  split at h3
  · rename_i s e
    rw [of_decide_eq_true h3] at e
    exact e
  · cases h3
/-- a law's end, tables of code objects told -/
theorem walk_ofTE {l : PySem.W.OpenLaw} {n k : Nat} {q : Program} {loose : List Str} {XP : (Str → Option Value) → Heap → Prop} {YP : World → Heap → Prop} {d : DefRec} {x : Str} (most : l.most = some n) (small : n ≤ sizeLine) (nodef : d.params.defaults = []) (room : Room k callerA)
    (F : ∀ (w : World) (mg : Str → Option Value) (fa : Addr) (h : Heap), YP w h → h.Ns mainGlobals mg → mg d.name = some (.ref fa) → ∃ K : PySem.W.Frag, K.In h ∧ LamX.LawAtS l w K CX0 k n x mg fa h) :
    PySem.W.WalkO q loose XP YP l.row.toRowW d [] (fun f vs => PySem.call f vs) := by
  apply Att.attach_callB most nodef
  intro w s₀ s₁ mg mb fa o pm cd doc a vs ns G Y ho hd hcd hmg hobj hi1 hl1 hb1 hg1
  obtain ⟨K, inK, fd, cs, sp, t1, t2, t3, b, p, f⟩ := F w mg fa _ Y G.T.g hmg
  exact LamX.law_callTs inK G.T.g G.T.b G.T.builtins G.T.nolimit hg1 t1 t2 t3 G.T.bmain hobj hi1 (Nat.le_trans hl1 small) room f b (fun H hH hS => p H a ns hl1 hb1 hH hS) fun _ _ _ z => z
end AH
set_option maxRecDepth 100000
set_option maxHeartbeats 0
namespace K12
open PySem PySem.Spec PyProof.Rows L2 AH TL
def top (i : Nat) : Stmt := PySem.Challenge.pw_attachhall_k12_sessions_of_one_name.main.body.getD i (.Pass ⟨0, 0, 0, 0⟩)
abbrev s_BadText___init__ : Stmt := inClass (top 9) 0
abbrev s_BadSign___init__ : Stmt := inClass (top 4) 0
abbrev s_is_number : Stmt := top 15
abbrev s_need_size : Stmt := top 16
abbrev s_need_signs : Stmt := top 30
abbrev s_changed : Stmt := top 31
abbrev s_count_of : Stmt := top 32
abbrev s_Pane___init__ : Stmt := inClass (top 33) 0
abbrev s_Pane_change : Stmt := inClass (top 33) 1
abbrev s_Pane_do : Stmt := inClass (top 33) 3
abbrev s_Pane_press : Stmt := inClass (top 33) 2
abbrev s_Pane_rows : Stmt := inClass (top 33) 5
abbrev s_Pane_line : Stmt := inClass (top 33) 6
abbrev s_Pane_changes : Stmt := inClass (top 33) 8
abbrev s_Pane_since : Stmt := inClass (top 33) 9
abbrev s_Pane_typed : Stmt := inClass (top 33) 10
abbrev s_sum_of : Stmt := top 41
abbrev s_packed : Stmt := top 42
abbrev s_number_of : Stmt := top 43
abbrev s_unpacked : Stmt := top 44
abbrev s_Look___init__ : Stmt := inClass (top 50) 0
abbrev s_Look_press : Stmt := inClass (top 50) 1
abbrev s_Look_press_o : Stmt := inClass (top 50) 1
abbrev s_Look_letters : Stmt := inClass (top 50) 4
abbrev s_Look_take : Stmt := inClass (top 50) 6
abbrev s_Look_hear : Stmt := inClass (top 50) 5
abbrev s_Look_waiting : Stmt := inClass (top 50) 8
abbrev s_Look_over : Stmt := inClass (top 50) 10
abbrev s_Seat___init__ : Stmt := inClass (top 53) 0
abbrev s_Hall___init__ : Stmt := inClass (top 54) 0
abbrev s_Hall_take : Stmt := inClass (top 54) 3
abbrev s_Hall_hear : Stmt := inClass (top 54) 2
abbrev s_Hall_told : Stmt := inClass (top 54) 5
abbrev s_Hall_letters : Stmt := inClass (top 54) 4
abbrev s_Hall_typed : Stmt := inClass (top 54) 7
abbrev s_Hall_looks : Stmt := inClass (top 54) 8
abbrev s__law_begun : Stmt := top 56
abbrev s__law_take : Stmt := top 57
abbrev s__law_alike : Stmt := top 58
abbrev s__law_told : Stmt := top 59
abbrev s__law_all : Stmt := top 60
abbrev s__law_all_hear : Stmt := top 61
abbrev s__law_is_last : Stmt := top 62
abbrev s_law : Stmt := top 63
def D_BadText___init__ : He.DefD := ⟨("BadText", some "__init__"), "__init__", "BadText.__init__", defArgs s_BadText___init__, defBody s_BadText___init__, defScope s_BadText___init__, [], []⟩
def D_BadSign___init__ : He.DefD := ⟨("BadSign", some "__init__"), "__init__", "BadSign.__init__", defArgs s_BadSign___init__, defBody s_BadSign___init__, defScope s_BadSign___init__, [], []⟩
def D_is_number : He.DefD := ⟨("is_number", none), "is_number", "is_number", defArgs s_is_number, defBody s_is_number, defScope s_is_number, [], []⟩
def D_need_size : He.DefD := ⟨("need_size", none), "need_size", "need_size", defArgs s_need_size, defBody s_need_size, defScope s_need_size, [], []⟩
def D_need_signs : He.DefD := ⟨("need_signs", none), "need_signs", "need_signs", defArgs s_need_signs, defBody s_need_signs, defScope s_need_signs, [], []⟩
def D_changed : He.DefD := ⟨("changed", none), "changed", "changed", defArgs s_changed, defBody s_changed, defScope s_changed, [], []⟩
def D_count_of : He.DefD := ⟨("count_of", none), "count_of", "count_of", defArgs s_count_of, defBody s_count_of, defScope s_count_of, [], []⟩
def D_Pane___init__ : He.DefD := ⟨("Pane", some "__init__"), "__init__", "Pane.__init__", defArgs s_Pane___init__, defBody s_Pane___init__, defScope s_Pane___init__, [], []⟩
def D_Pane_change : He.DefD := ⟨("Pane", some "change"), "change", "Pane.change", defArgs s_Pane_change, defBody s_Pane_change, defScope s_Pane_change, [], []⟩
def D_Pane_do : He.DefD := ⟨("Pane", some "do"), "do", "Pane.do", defArgs s_Pane_do, defBody s_Pane_do, defScope s_Pane_do, [], []⟩
def D_Pane_press : He.DefD := ⟨("Pane", some "press"), "press", "Pane.press", defArgs s_Pane_press, defBody s_Pane_press, defScope s_Pane_press, [], []⟩
def D_Pane_rows : He.DefD := ⟨("Pane", some "rows"), "rows", "Pane.rows", defArgs s_Pane_rows, defBody s_Pane_rows, defScope s_Pane_rows, [], []⟩
def D_Pane_line : He.DefD := ⟨("Pane", some "line"), "line", "Pane.line", defArgs s_Pane_line, defBody s_Pane_line, defScope s_Pane_line, [], []⟩
def D_Pane_changes : He.DefD := ⟨("Pane", some "changes"), "changes", "Pane.changes", defArgs s_Pane_changes, defBody s_Pane_changes, defScope s_Pane_changes, [], []⟩
def D_Pane_since : He.DefD := ⟨("Pane", some "since"), "since", "Pane.since", defArgs s_Pane_since, defBody s_Pane_since, defScope s_Pane_since, [], []⟩
def D_Pane_typed : He.DefD := ⟨("Pane", some "typed"), "typed", "Pane.typed", defArgs s_Pane_typed, defBody s_Pane_typed, defScope s_Pane_typed, [], []⟩
def D_sum_of : He.DefD := ⟨("sum_of", none), "sum_of", "sum_of", defArgs s_sum_of, defBody s_sum_of, defScope s_sum_of, [], []⟩
def D_packed : He.DefD := ⟨("packed", none), "packed", "packed", defArgs s_packed, defBody s_packed, defScope s_packed, [], []⟩
def D_number_of : He.DefD := ⟨("number_of", none), "number_of", "number_of", defArgs s_number_of, defBody s_number_of, defScope s_number_of, [], []⟩
def D_unpacked : He.DefD := ⟨("unpacked", none), "unpacked", "unpacked", defArgs s_unpacked, defBody s_unpacked, defScope s_unpacked, [], []⟩
def D_Look___init__ : He.DefD := ⟨("Look", some "__init__"), "__init__", "Look.__init__", defArgs s_Look___init__, defBody s_Look___init__, defScope s_Look___init__, [], []⟩
def D_Look_press : He.DefD := ⟨("Look", some "press"), "press", "Look.press", defArgs s_Look_press, defBody s_Look_press, defScope s_Look_press, [], []⟩
def D_Look_press_o : He.DefD := ⟨("Look", some "press"), "press", "Look.press", defArgs s_Look_press_o, defBody s_Look_press_o, defScope s_Look_press_o, [], []⟩
def D_Look_letters : He.DefD := ⟨("Look", some "letters"), "letters", "Look.letters", defArgs s_Look_letters, defBody s_Look_letters, defScope s_Look_letters, [], []⟩
def D_Look_take : He.DefD := ⟨("Look", some "take"), "take", "Look.take", defArgs s_Look_take, defBody s_Look_take, defScope s_Look_take, [], []⟩
def D_Look_hear : He.DefD := ⟨("Look", some "hear"), "hear", "Look.hear", defArgs s_Look_hear, defBody s_Look_hear, defScope s_Look_hear, [], []⟩
def D_Look_waiting : He.DefD := ⟨("Look", some "waiting"), "waiting", "Look.waiting", defArgs s_Look_waiting, defBody s_Look_waiting, defScope s_Look_waiting, [], []⟩
def D_Look_over : He.DefD := ⟨("Look", some "over"), "over", "Look.over", defArgs s_Look_over, defBody s_Look_over, defScope s_Look_over, [], []⟩
def D_Seat___init__ : He.DefD := ⟨("Seat", some "__init__"), "__init__", "Seat.__init__", defArgs s_Seat___init__, defBody s_Seat___init__, defScope s_Seat___init__, [], []⟩
def D_Hall___init__ : He.DefD := ⟨("Hall", some "__init__"), "__init__", "Hall.__init__", defArgs s_Hall___init__, defBody s_Hall___init__, defScope s_Hall___init__, [], []⟩
def D_Hall_take : He.DefD := ⟨("Hall", some "take"), "take", "Hall.take", defArgs s_Hall_take, defBody s_Hall_take, defScope s_Hall_take, [], []⟩
def D_Hall_hear : He.DefD := ⟨("Hall", some "hear"), "hear", "Hall.hear", defArgs s_Hall_hear, defBody s_Hall_hear, defScope s_Hall_hear, [], []⟩
def D_Hall_told : He.DefD := ⟨("Hall", some "told"), "told", "Hall.told", defArgs s_Hall_told, defBody s_Hall_told, defScope s_Hall_told, [], []⟩
def D_Hall_letters : He.DefD := ⟨("Hall", some "letters"), "letters", "Hall.letters", defArgs s_Hall_letters, defBody s_Hall_letters, defScope s_Hall_letters, [], []⟩
def D_Hall_typed : He.DefD := ⟨("Hall", some "typed"), "typed", "Hall.typed", defArgs s_Hall_typed, defBody s_Hall_typed, defScope s_Hall_typed, [], []⟩
def D_Hall_looks : He.DefD := ⟨("Hall", some "looks"), "looks", "Hall.looks", defArgs s_Hall_looks, defBody s_Hall_looks, defScope s_Hall_looks, [], []⟩
def D__law_begun : He.DefD := ⟨("_law_begun", none), "_law_begun", "_law_begun", defArgs s__law_begun, defBody s__law_begun, defScope s__law_begun, [], []⟩
def D__law_take : He.DefD := ⟨("_law_take", none), "_law_take", "_law_take", defArgs s__law_take, defBody s__law_take, defScope s__law_take, [], []⟩
def D__law_alike : He.DefD := ⟨("_law_alike", none), "_law_alike", "_law_alike", defArgs s__law_alike, defBody s__law_alike, defScope s__law_alike, [], []⟩
def D__law_told : He.DefD := ⟨("_law_told", none), "_law_told", "_law_told", defArgs s__law_told, defBody s__law_told, defScope s__law_told, [], []⟩
def D__law_all : He.DefD := ⟨("_law_all", none), "_law_all", "_law_all", defArgs s__law_all, defBody s__law_all, defScope s__law_all, [], []⟩
def D__law_all_hear : He.DefD := ⟨("_law_all_hear", none), "_law_all_hear", "_law_all_hear", defArgs s__law_all_hear, defBody s__law_all_hear, defScope s__law_all_hear, [], []⟩
def D__law_is_last : He.DefD := ⟨("_law_is_last", none), "_law_is_last", "_law_is_last", defArgs s__law_is_last, defBody s__law_is_last, defScope s__law_is_last, [], []⟩
def D_law : He.DefD := ⟨("law", none), "law", "law", defArgs s_law, defBody s_law, defScope s_law, [], []⟩
def fn0 : List He.DefD := [D_BadText___init__, D_BadSign___init__, D_is_number, D_need_size, D_need_signs, D_changed, D_count_of, D_Pane___init__, D_Pane_change, D_Pane_do, D_Pane_press, D_Pane_rows, D_Pane_line, D_Pane_changes, D_Pane_since, D_Pane_typed, D_sum_of, D_packed, D_number_of, D_unpacked, D_Look___init__, D_Look_press, D_Look_press_o, D_Look_letters, D_Look_take, D_Look_hear, D_Look_waiting, D_Look_over, D_Seat___init__, D_Hall___init__]
def fn1 : List He.DefD := [D_Hall_take, D_Hall_hear, D_Hall_told, D_Hall_letters, D_Hall_typed, D_Hall_looks, D__law_begun, D__law_take, D__law_alike, D__law_told, D__law_all, D__law_all_hear, D__law_is_last, D_law]
def fn : List He.DefD := fn0 ++ fn1
def fa0 : List He.Fa := [.glo "HallError", .glo "BadCount", .glo "BadFields", .glo "BadLook", .glo "BadSign", .glo "BadSize", .glo "BadText", .glo "NoLook", .exc "NoLook", .str "BACK" "<", .str "BETWEEN" "|", .str "BLANK" " ", .str "CLEAR" "clear", .str "CLOSE" "!", .str "ENDS" ";", .str "FIGURES" "0123456789", .int "LEAST_WIDE" 2, .str "LETTERS" "abcdefghijklmnopqrstuvwxyz", .str "LINE" "line", .int "MOST_FIGURES" 6, .int "MOST_HIGH" 20, .int "MOST_LINE" 30, .int "MOST_NAME" 3, .int "MOST_PANES" 3, .int "MOST_PAST" 30, .int "MOST_ROWS" 40, .int "MOST_SESSION" 100000, .int "MOST_TOLD" 8, .int "MOST_TYPED" 100, .int "MOST_WIDE" 40]
def fa1 : List He.Fa := [.str "NONE" "?", .str "POINT" ".", .str "PROMPT" "> ", .int "RING" 9973, .str "ROW" "row", .str "SIGNS" "abcdefghijklmnopqrstuvwxyz0123456789 >?<;", .free "ValueError", .free "bool", .free "enumerate", .free "int", .free "isinstance", .free "len", .free "list", .free "range", .free "sorted", .free "str", .free "tuple", .glo "Pane", .cls "Pane", .noat "Pane" "kept", .noat "Pane" "text", .noat "Pane" "work", .noat "Pane" "many", .noat "Pane" "past", .noat "Pane" "notes", .mkr "Pane", .glo "Look", .cls "Look", .noat "Look" "head", .noat "Look" "size"]
def fa2 : List He.Fa := [.noat "Look" "kept", .noat "Look" "text", .noat "Look" "version", .noat "Look" "first", .noat "Look" "signs", .noat "Look" "gone", .noat "Look" "past", .mkr "Look", .glo "Seat", .cls "Seat", .noat "Seat" "session", .noat "Seat" "pane", .noat "Seat" "done", .noat "Seat" "knows", .noat "Seat" "here", .mkr "Seat", .glo "Hall", .cls "Hall", .noat "Hall" "places", .noat "Hall" "seats", .mkr "Hall", .glo "is_number", .glo "need_size", .glo "need_signs", .glo "changed", .glo "count_of", .meth "Pane" "change", .meth "Pane" "do", .meth "Pane" "press", .meth "Pane" "rows"]
def fa3 : List He.Fa := [.meth "Pane" "line", .meth "Pane" "changes", .meth "Pane" "since", .meth "Pane" "typed", .glo "sum_of", .glo "packed", .glo "number_of", .glo "unpacked", .meth "Look" "press", .meth "Look" "letters", .meth "Look" "take", .meth "Look" "hear", .meth "Look" "waiting", .meth "Look" "over", .meth "Hall" "take", .meth "Hall" "hear", .meth "Hall" "told", .meth "Hall" "letters", .meth "Hall" "typed", .meth "Hall" "looks", .glo "_law_begun", .glo "_law_take", .glo "_law_alike", .glo "_law_told", .glo "_law_all", .glo "_law_all_hear", .glo "_law_is_last", .glo "law"]
def fa : List He.Fa := fa0 ++ fa1 ++ fa2 ++ fa3
def nms0 : List PySem.Str := ["_wall", "HallError", "BadSize", "BadSign", "BadFields", "BadLook", "BadCount", "NoLook", "BadText", "LEAST_WIDE", "MOST_WIDE", "MOST_HIGH", "PROMPT", "is_number", "need_size", "LETTERS", "FIGURES", "BLANK", "BACK", "ENDS", "MOST_LINE", "MOST_ROWS", "MOST_PAST", "MOST_TYPED", "LINE", "ROW", "CLEAR", "need_signs", "changed", "count_of"]
def nms1 : List PySem.Str := ["Pane", "SIGNS", "BETWEEN", "POINT", "CLOSE", "RING", "MOST_FIGURES", "sum_of", "packed", "number_of", "unpacked", "MOST_NAME", "MOST_SESSION", "MOST_PANES", "NONE", "Look", "MOST_TOLD", "Seat", "Hall", "_law_begun", "_law_take", "_law_alike", "_law_told", "_law_all", "_law_all_hear", "_law_is_last"]
def nms : List PySem.Str := nms0 ++ nms1
abbrev R : PySem.W.OpenRow := PySem.W.OpenLaw.row PySem.Challenge.rw_attachhall_k12_sessions_of_one_name
def ts : List TabX := []
def tf : List He.Defn := [("_law_is_last", none)]
def exF (K : PySem.W.Frag) : Bool := toldB K && (hinB K && (oexB K "BadSign" "place" && (oexB K "BadText" "row" && decide (tf.map fun p => He.tabOf K (He.codeOf K p)).Nodup)))
abbrev hk : PySem.W.Hook := hookE 5 fa fn ts tf exF
def ob (s : PySem.W.SharedT) : AlE := obsEG 5 fa fn ts tf exF (HandSHeadRun.getT s)
theorem ob_eq (s : PySem.W.SharedT) : ob s = hk.obs s.abs := obsEG_eq (HandSHeadRun.getT_eq s)
theorem run (w : World) : HandSHeadRun.RunEq R (PySem.W.view R.prog [63]) hk ob 12000 nms w := by
  intro os
  kernel_rfl
theorem exF_is {K : PySem.W.Frag} (h : exF K = true) : toldB K = true ∧ hinB K = true ∧ oexB K "BadSign" "place" = true ∧ oexB K "BadText" "row" = true := by
  simp only [exF, Bool.and_eq_true] at h
  exact ⟨h.1, h.2.1, h.2.2.1, h.2.2.2.1⟩
theorem exF_nd {K : PySem.W.Frag} (h : exF K = true) : (tf.map fun p => He.tabOf K (He.codeOf K p)).Nodup := by
  simp only [exF, Bool.and_eq_true, decide_eq_true_eq] at h
  exact h.2.2.2.2
end K12
set_option maxRecDepth 100000
set_option maxHeartbeats 2000000
namespace AH
open PySem L2
inductive D where
  | non | bl (b : Bool) | int (i : Int) | str (c : List Nat) | tup (xs : List D) | lst (xs : List D) | ref (l : Nat) | raw (v : V) | scr (ns : List Int)
  /-- an exception at a, its dict at d: names, what they hold -/
  | exn (a : Addr) (d : Option Addr) (ns : List Str) (vs : List D)
  /-- a thing of no worth of its own, and what was known when it was handed on -/
  | fact (f : Addr) (H0 : Hp) (X0 : Addr → Prop) (i0 : Nat → Option Addr)
inductive DK where
  | i (n : Int) | s (c : List Nat)
  deriving DecidableEq
def DK.key : DK → Key
  | .i n => .inl n
  | .s c => .inr ⟨c.toArray⟩
theorem DK.key_inj : ∀ {a b : DK}, a.key = b.key → a = b
  | .i n, .i m, h => by
    have e : n = m := Sum.inl.inj h
    rw [e]
  | .s c, .s d, h => by
    have e : (⟨c.toArray⟩ : Str) = ⟨d.toArray⟩ := Sum.inr.inj h
    have e2 : c.toArray = d.toArray := congrArg Str.cps e
    have e3 : c = d := by
      have := congrArg Array.toList e2
      simpa using this
    rw [e3]
  | .i _, .s _, h => nomatch h
  | .s _, .i _, h => nomatch h
inductive MO where
  | lst (xs : List D)
  | dic (lk : Bool) (kvs : List (DK × D))
  | dit (lk : Bool) (kvs : List (List DK × D))
  | ins (c : Nat) (fs : List D)
  /-- a table of code objects, of lambdas of the name q -/
  | tab (t : Nat) (q : Str)
structure Sto where
  next : Nat
  get : Nat → Option MO
def Sto.set (S : Sto) (l : Nat) (o : MO) : Sto := ⟨S.next, fun k => if k = l then some o else S.get k⟩
def Sto.new (S : Sto) (o : MO) : Sto := ⟨S.next + 1, fun k => if k = S.next then some o else S.get k⟩
structure Wd where
  io : Nat → Option Addr
  S : Sto
  B : Addr → Prop
  H : Hp
def Wd.U (w : Wd) (a : Addr) : Prop := ∃ l, w.io l = some a
def Wd.Ex (w : Wd) (a : Addr) : Prop := w.B a ∨ w.U a
def Wd.withB (w : Wd) (B : Addr → Prop) : Wd := { w with B := B }
def Wd.ban (w : Wd) (p : Addr) : Wd := { w with B := fun a => w.B a ∨ a = p }
/-- the object at c is o, and stays so -/
def CelO (o : Obj) (c : Addr) : HO := .frz o (.ext fun h => h.get? c = some o)
abbrev NoCel (o : HO) : Prop := ∀ o' φ, o ≠ .frz o' (.ext φ)
structure Gx where
  cm : Nat → Addr
  fl : Nat → List Str
  tm : Nat → Addr := fun _ => 0
  tl : List (Nat × Str) := []
  /-- things of the caller's that are told while it waits -/
  cel : Addr → Option Obj := fun _ => none
def Kw (K : PySem.W.Frag) (a : Addr) (xs : List V) : Prop :=
  ∃ (o : Obj) (its : Array Value) (n : Nat), K.lookup a = some o ∧ o.cls = .type "list" ∧ o.dict = none ∧ o.data = .seq its n ∧ its.size ≤ sizeLine ∧ Vals xs its.toList
mutual
inductive RV (K : PySem.W.Frag) (w : Wd) : V → D → Prop
  | non : RV K w .non .non
  | bl {b} : RV K w (.bl b) (.bl b)
  | int {i} : RV K w (.int i) (.int i)
  | str {c : List Nat} : RV K w (.str ⟨c.toArray⟩) (.str c)
  | tup {a vs ds} : w.H a = some (.tup vs) → ¬ w.Ex a → RVs K w vs ds → RV K w (.ref a) (.tup ds)
  | lst {a vs ds} : w.H a = some (.lst vs) → ¬ w.Ex a → RVs K w vs ds → RV K w (.ref a) (.lst ds)
  | ref {l a} : w.io l = some a → RV K w (.ref a) (.ref l)
  | raw {v} : RV K w v (.raw v)
  | scr {a ns} : ((∃ o, w.H a = some (.frz o (.lst (ns.map V.int))) ∧ ¬ w.Ex a) ∨ Kw K a (ns.map V.int)) → RV K w (.ref a) (.scr ns)
  | scl {a} {ns : List Int} : w.H a = some (.lst (ns.map V.int)) → ¬ w.Ex a → RV K w (.ref a) (.scr ns)
  | ex0 {a} : RV K w (.ref a) (.exn a none [] [])
  | fact {f H0 X0 i0} : (∀ l a, i0 l = some a → w.io l = some a) → (∀ a o, H0 a = some o → NoCel o → ¬ X0 a → w.H a = some o ∧ ¬ w.Ex a) → RV K w (.ref f) (.fact f H0 X0 i0)
  | exd {a dd ys ds} : w.H dd = some (.xd ys) → ¬ w.Ex dd → RVs K w (ys.map (·.2)) ds → RV K w (.ref a) (.exn a (some dd) (ys.map (·.1)) ds)
inductive RVs (K : PySem.W.Frag) (w : Wd) : List V → List D → Prop
  | nil : RVs K w [] []
  | cons {v vs d ds} : RV K w v d → RVs K w vs ds → RVs K w (v :: vs) (d :: ds)
end
/-- data by value stays what it is -/
structure Mv (w w' : Wd) : Prop where
  io : ∀ l a, w.io l = some a → w'.io l = some a
  hp : ∀ a o, w.H a = some o → ¬ w.Ex a → w'.H a = some o ∧ ¬ w'.Ex a
  fz : ∀ a o u, w.H a = some (.frz o u) → w'.H a = some (.frz o u)
theorem Mv.refl (w : Wd) : Mv w w := ⟨fun _ _ h => h, fun _ _ h k => ⟨h, k⟩, fun _ _ _ h => h⟩
theorem Mv.trans {a b c : Wd} (x : Mv a b) (y : Mv b c) : Mv a c := ⟨fun l p h => y.io l p (x.io l p h), fun p o h k => let ⟨h1, k1⟩ := x.hp p o h k; y.hp p o h1 k1, fun p o u h => y.fz p o u (x.fz p o u h)⟩
mutual
theorem RV.mono {K : PySem.W.Frag} {w w' : Wd} (m : Mv w w') : ∀ {v : V} {d : D}, RV K w v d → RV K w' v d
  | _, _, .non => .non
  | _, _, .bl => .bl
  | _, _, .int => .int
  | _, _, .str => .str
  | _, _, .tup h k r => .tup (m.hp _ _ h k).1 (m.hp _ _ h k).2 (RVs.mono m r)
  | _, _, .lst h k r => .lst (m.hp _ _ h k).1 (m.hp _ _ h k).2 (RVs.mono m r)
  | _, _, .ref h => .ref (m.io _ _ h)
  | _, _, .raw => .raw
  | _, _, .scr (.inl ⟨o, h, k⟩) => .scr (.inl ⟨o, (m.hp _ _ h k).1, (m.hp _ _ h k).2⟩)
  | _, _, .scr (.inr h) => .scr (.inr h)
  | _, _, .scl h k => .scl (m.hp _ _ h k).1 (m.hp _ _ h k).2
  | _, _, .ex0 => .ex0
  | _, _, .fact h k => .fact (fun l a e => m.io _ _ (h l a e)) (fun a o e c n => m.hp _ _ (k a o e c n).1 (k a o e c n).2)
  | _, _, .exd h k r => .exd (m.hp _ _ h k).1 (m.hp _ _ h k).2 (RVs.mono m r)
theorem RVs.mono {K : PySem.W.Frag} {w w' : Wd} (m : Mv w w') : ∀ {v : List V} {d : List D}, RVs K w v d → RVs K w' v d
  | _, _, .nil => .nil
  | _, _, .cons r s => .cons (RV.mono m r) (RVs.mono m s)
end
section
variable {K : PySem.W.Frag} {w : Wd}
theorem RVs.length : ∀ {vs : List V} {ds : List D}, RVs K w vs ds → vs.length = ds.length
  | _, _, .nil => rfl
  | _, _, .cons _ s => congrArg (· + 1) (RVs.length s)
theorem RVs.get : ∀ {vs : List V} {ds : List D} {i : Nat} {d : D}, RVs K w vs ds → ds[i]? = some d → ∃ v, vs[i]? = some v ∧ RV K w v d
  | _, _, _, _, .nil, e => by simp at e
  | _, _, 0, _, .cons r _, e => by
    simp at e
    subst e
    exact ⟨_, rfl, r⟩
  | _, _, i + 1, d, .cons _ s, e => by
    obtain ⟨v, h1, h2⟩ := RVs.get (i := i) (d := d) s (by simpa using e)
    exact ⟨v, by simpa using h1, h2⟩
theorem RVs.append : ∀ {vs us : List V} {ds es : List D}, RVs K w vs ds → RVs K w us es → RVs K w (vs ++ us) (ds ++ es)
  | _, _, _, _, .nil, s => s
  | _, _, _, _, .cons r t, s => .cons r (RVs.append t s)
theorem RVs.take : ∀ {vs : List V} {ds : List D} (n : Nat), RVs K w vs ds → RVs K w (vs.take n) (ds.take n)
  | _, _, 0, _ => .nil
  | _, _, _ + 1, .nil => .nil
  | _, _, n + 1, .cons r t => .cons r (RVs.take n t)
theorem RVs.drop : ∀ {vs : List V} {ds : List D} (n : Nat), RVs K w vs ds → RVs K w (vs.drop n) (ds.drop n)
  | _, _, 0, r => r
  | _, _, _ + 1, .nil => .nil
  | _, _, n + 1, .cons _ t => RVs.drop n t
theorem RVs.set {v : V} {d : D} (r : RV K w v d) : ∀ {vs : List V} {ds : List D} (i : Nat), RVs K w vs ds → RVs K w (vs.set i v) (ds.set i d)
  | _, _, _, .nil => .nil
  | _, _, 0, .cons _ t => .cons r t
  | _, _, i + 1, .cons q t => .cons q (RVs.set r i t)
theorem RVs.eraseIdx : ∀ {vs : List V} {ds : List D} (i : Nat), RVs K w vs ds → RVs K w (vs.eraseIdx i) (ds.eraseIdx i)
  | _, _, _, .nil => .nil
  | _, _, 0, .cons _ t => t
  | _, _, i + 1, .cons q t => .cons q (RVs.eraseIdx i t)
theorem RVs.one {v : V} {d : D} (r : RV K w v d) : RVs K w [v] [d] := .cons r .nil
theorem RVs.of_ints : ∀ (ns : List Int), RVs K w (ns.map V.int) (ns.map D.int)
  | [] => .nil
  | n :: ns => .cons .int (RVs.of_ints ns)
theorem RVs.of_strs : ∀ (ns : List (List Nat)), RVs K w ((ns.map fun c => (⟨c.toArray⟩ : Str)).map V.str) (ns.map D.str)
  | [] => .nil
  | n :: ns => .cons .str (RVs.of_strs ns)
end
/-- pairs by key -/
abbrev RK (K : PySem.W.Frag) (w : Wd) : List (Key × V) → List (DK × D) → Prop := Paired fun p q => p.1 = q.1.key ∧ RV K w p.2 q.2
abbrev RT (K : PySem.W.Frag) (w : Wd) : List (List Key × V) → List (List DK × D) → Prop := Paired fun p q => p.1 = q.1.map DK.key ∧ RV K w p.2 q.2
def RO (K : PySem.W.Frag) (G : Gx) (w : Wd) (a : Addr) : MO → Prop
  | .lst ds => ∃ vs, w.H a = some (.lst vs) ∧ RVs K w vs ds
  | .dic lk kvs => ∃ ks, (match lk with | false => w.H a = some (.dK ks) | true => ∃ od, w.H a = some (.frz od (.dK ks))) ∧ RK K w ks kvs
  | .dit lk kvs => ∃ ks, (match lk with | false => w.H a = some (.dT ks) | true => ∃ od, w.H a = some (.frz od (.dT ks))) ∧ RT K w ks kvs
  | .ins c ds => ∃ dx gs, w.H a = some (.ins (G.cm c) dx gs) ∧ gs.map (·.1) = (G.fl c).take ds.length ∧ ds.length ≤ (G.fl c).length ∧ RVs K w (gs.map (·.2)) ds
  | .tab t q => (a = G.tm t ∧ (t, q) ∈ G.tl) ∧ ∃ ps : Array Value, w.H a = some (.tbl ps) ∧ TriplesOk ps.toList ∧ ∀ (pos : Pos) (cv : Value), codeAmong pos ps.toList = some cv → ∃ c, cv = .ref c ∧ w.H c = some (LamX.CodeO c q) ∧ ¬ w.Ex c
theorem RO.mono {K : PySem.W.Frag} {G : Gx} {w w' : Wd} {a : Addr} (m : Mv w w') (e : w'.H a = w.H a) : ∀ {o : MO}, RO K G w a o → RO K G w' a o
  | .lst ds, ⟨vs, h, r⟩ => ⟨vs, by rw [e]; exact h, r.mono m⟩
  | .dic false kvs, ⟨ks, h, r⟩ => ⟨ks, by show w'.H a = _; rw [e]; exact h, L2.Paired.mapP r fun _ _ q => ⟨q.1, q.2.mono m⟩⟩
  | .dic true kvs, ⟨ks, ⟨od, h⟩, r⟩ => ⟨ks, ⟨od, by rw [e]; exact h⟩, L2.Paired.mapP r fun _ _ q => ⟨q.1, q.2.mono m⟩⟩
  | .dit false kvs, ⟨ks, h, r⟩ => ⟨ks, by show w'.H a = _; rw [e]; exact h, L2.Paired.mapP r fun _ _ q => ⟨q.1, q.2.mono m⟩⟩
  | .dit true kvs, ⟨ks, ⟨od, h⟩, r⟩ => ⟨ks, ⟨od, by rw [e]; exact h⟩, L2.Paired.mapP r fun _ _ q => ⟨q.1, q.2.mono m⟩⟩
  | .ins c ds, ⟨dx, gs, h, h1, h2, r⟩ => ⟨dx, gs, by rw [e]; exact h, h1, h2, r.mono m⟩
  | .tab t q, ⟨h0, ps, h, h1, h2⟩ => ⟨h0, ps, by rw [e]; exact h, h1, fun pos cv hc => let ⟨c, e1, e2, e3⟩ := h2 pos cv hc; ⟨c, e1, m.hp _ _ e2 e3⟩⟩
theorem RO.some {K : PySem.W.Frag} {G : Gx} {w : Wd} {a : Addr} : ∀ {o : MO}, RO K G w a o → ∃ u, w.H a = some u
  | .lst ds, ⟨vs, h, r⟩ => ⟨_, h⟩
  | .dic false kvs, ⟨ks, h, r⟩ => ⟨_, h⟩
  | .dic true kvs, ⟨ks, ⟨od, h⟩, r⟩ => ⟨_, h⟩
  | .dit false kvs, ⟨ks, h, r⟩ => ⟨_, h⟩
  | .dit true kvs, ⟨ks, ⟨od, h⟩, r⟩ => ⟨_, h⟩
  | .ins c ds, ⟨dx, gs, h, h1, h2, r⟩ => ⟨_, h⟩
  | .tab t q, ⟨h0, ps, h, h1, h2⟩ => ⟨_, h⟩
structure Ok (K : PySem.W.Frag) (G : Gx) (w : Wd) : Prop where
  obj : ∀ l o, w.S.get l = some o → ∃ a, w.io l = some a ∧ RO K G w a o
  inj : ∀ l l' a, w.io l = some a → w.io l' = some a → l = l'
  dom : ∀ l, w.S.get l = none → w.io l = none
  nxt : ∀ l, w.S.next ≤ l → w.S.get l = none
  dis : ∀ a, w.B a → ¬ w.U a
  bh : ∀ a, w.B a → ∃ o, w.H a = some o
  tb : ∀ a ps, w.H a = some (.tbl ps) → w.U a
  bx : ∀ a φ, w.B a → w.H a ≠ some (.ext φ)
  ce : ∀ c o, G.cel c = some o → w.H c = some (CelO o c)
theorem Ok.uh {K : PySem.W.Frag} {G : Gx} {w : Wd} (k : Ok K G w) {a : Addr} (h : w.U a) : ∃ o, w.H a = some o := by
  obtain ⟨l, h⟩ := h
  cases e : w.S.get l with
  | none =>
    rw [k.dom l e] at h
    cases h
  | some o =>
    obtain ⟨b, h1, h2⟩ := k.obj l o e
    rw [h] at h1
    cases h1
    exact h2.some
theorem Ok.exh {K : PySem.W.Frag} {G : Gx} {w : Wd} (k : Ok K G w) {a : Addr} (h : w.Ex a) : ∃ o, w.H a = some o := h.elim (k.bh a) k.uh
theorem Ok.fresh {K : PySem.W.Frag} {G : Gx} {w : Wd} (k : Ok K G w) {a : Addr} (h : w.H a = none) : ¬ w.Ex a := fun e => by
  obtain ⟨o, q⟩ := k.exh e
  rw [h] at q
  cases q
/-- B grows less -/
theorem Mv.shrink {w : Wd} {B : Addr → Prop} (h : ∀ a, B a → w.B a) : Mv w (w.withB B) := ⟨fun _ _ e => e, fun a o e k => ⟨e, fun z => k (z.elim (fun b => .inl (h a b)) .inr)⟩, fun _ _ _ h => h⟩
theorem Ok.shrink {K : PySem.W.Frag} {G : Gx} {w : Wd} {B : Addr → Prop} (k : Ok K G w) (h : ∀ a, B a → w.B a) : Ok K G (w.withB B) :=
  ⟨fun l o e => let ⟨a, h1, h2⟩ := k.obj l o e; ⟨a, h1, h2.mono (Mv.shrink h) rfl⟩, k.inj, k.dom, k.nxt, fun a b => k.dis a (h a b), fun a b => k.bh a (h a b), k.tb, fun a φ b => k.bx a φ (h a b), k.ce⟩
/-- a step that leaves what is not in the store -/
structure Fr (w w' : Wd) : Prop where
  io : ∀ l a, w.io l = some a → w'.io l = some a
  hp : ∀ a o, w.H a = some o → ¬ w.U a → w'.H a = some o ∧ ¬ w'.U a
  fz : ∀ a o u, w.H a = some (.frz o u) → w'.H a = some (.frz o u)
  bb : w'.B = w.B
theorem Fr.refl (w : Wd) : Fr w w := ⟨fun _ _ h => h, fun _ _ h k => ⟨h, k⟩, fun _ _ _ h => h, rfl⟩
theorem Fr.trans {a b c : Wd} (x : Fr a b) (y : Fr b c) : Fr a c := ⟨fun l p h => y.io l p (x.io l p h), fun p o h k => let ⟨h1, k1⟩ := x.hp p o h k; y.hp p o h1 k1, fun p o u h => y.fz p o u (x.fz p o u h), y.bb.trans x.bb⟩
theorem Fr.mv {w w' : Wd} (f : Fr w w') : Mv w w' := ⟨f.io, fun a o h k => by
  obtain ⟨h1, k1⟩ := f.hp a o h fun z => k (.inr z)
  refine ⟨h1, fun z => z.elim (fun b => ?_) k1⟩
  rw [f.bb] at b
  exact k (.inl b), f.fz⟩
theorem Fr.free {w w' : Wd} (f : Fr w w') (hu : ∀ a, w.U a → ∃ o, w.H a = some o) (hu' : ∀ a, w.H a = none → True) {p : Addr} (h : w'.H p = none) (k : ∀ a, w.U a → ∃ o, w'.H a = some o) : w.H p = none := by
  cases e : w.H p with
  | none => rfl
  | some o =>
    by_cases u : w.U p
    · obtain ⟨o', q⟩ := k p u
      rw [h] at q
      cases q
    · rw [(f.hp p o e u).1] at h
      cases h
theorem Fr.free' {K : PySem.W.Frag} {G : Gx} {w w' : Wd} (f : Fr w w') (k' : Ok K G w') {p : Addr} (h : w'.H p = none) : w.H p = none := by
  cases e : w.H p with
  | none => rfl
  | some o =>
    by_cases u : w.U p
    · obtain ⟨l, q⟩ := u
      obtain ⟨o', q⟩ := k'.uh ⟨l, f.io l p q⟩
      rw [h] at q
      cases q
    · rw [(f.hp p o e u).1] at h
      cases h
/-- a new object that is by value -/
def Wd.add (w : Wd) (p : Addr) (o : HO) : Wd := { w with H := upd w.H p o }
theorem Fr.add {w : Wd} {p : Addr} {o : HO} (h : w.H p = none) : Fr w (w.add p o) := ⟨fun _ _ e => e, fun a u e k => ⟨by
  show upd w.H p o a = some u
  rw [upd_ne (ne_of_none e h)]
  exact e, k⟩, fun a q u e => by
  show upd w.H p o a = some (.frz q u)
  rw [upd_ne (ne_of_none e h)]
  exact e, rfl⟩
theorem Ok.add {K : PySem.W.Frag} {G : Gx} {w : Wd} {p : Addr} {o : HO} (k : Ok K G w) (h : w.H p = none) (nt : ∀ ps, o ≠ .tbl ps := by intro ps z; cases z) : Ok K G (w.add p o) where
  obj := fun l u e => by
    obtain ⟨a, h1, h2⟩ := k.obj l u e
    obtain ⟨z, hz⟩ := h2.some
    refine ⟨a, h1, h2.mono (Fr.add h).mv ?_⟩
    show upd w.H p o a = w.H a
    exact upd_ne (ne_of_none hz h)
  inj := k.inj
  dom := k.dom
  nxt := k.nxt
  dis := k.dis
  bh := fun a b => by
    obtain ⟨z, hz⟩ := k.bh a b
    refine ⟨z, ?_⟩
    show upd w.H p o a = _
    rw [upd_ne (ne_of_none hz h)]
    exact hz
  tb := fun a ps e => by
    have e : upd w.H p o a = some (.tbl ps) := e
    by_cases q : a = p
    · rw [q, upd_same] at e
      exact absurd (Option.some.inj e) (nt ps)
    · rw [upd_ne q] at e
      exact k.tb a ps e
  bx := fun a φ b => by
    obtain ⟨z, hz⟩ := k.bh a b
    show upd w.H p o a ≠ _
    rw [upd_ne (ne_of_none hz h)]
    exact k.bx a φ b
  ce := fun c ob e => by
    have z := k.ce c ob e
    show upd w.H p o c = _
    rw [upd_ne (ne_of_none z h)]
    exact z
/-- the store's object at l is another -/
def Wd.put (w : Wd) (l : Nat) (o : MO) (a : Addr) (u : HO) : Wd := { w with S := w.S.set l o, H := upd w.H a u }
theorem Fr.put {w : Wd} {l : Nat} {a : Addr} {o : MO} {u : HO} (h : w.io l = some a) (nf : ∀ q z, w.H a ≠ some (.frz q z)) : Fr w (w.put l o a u) := ⟨fun _ _ e => e, fun b z e k => ⟨by
  show upd w.H a u b = some z
  rw [upd_ne (fun (q : b = a) => k ⟨l, by rw [q]; exact h⟩)]
  exact e, k⟩, fun b q z e => by
  show upd w.H a u b = some (.frz q z)
  rw [upd_ne (fun (y : b = a) => nf q z (by rw [← y]; exact e))]
  exact e, rfl⟩
theorem Ok.put {K : PySem.W.Frag} {G : Gx} {w : Wd} {l : Nat} {a : Addr} {o0 o : MO} {u : HO} (k : Ok K G w) (h0 : w.S.get l = some o0) (h : w.io l = some a) (nf : ∀ q z, w.H a ≠ some (.frz q z)) (r : RO K G (w.put l o a u) a o) : Ok K G (w.put l o a u) where
  obj := fun l' o' e => by
    have e' : (if l' = l then some o else w.S.get l') = some o' := e
    by_cases q : l' = l
    · rw [if_pos q] at e'
      cases e'
      subst q
      exact ⟨a, h, r⟩
    · rw [if_neg q] at e'
      obtain ⟨b, h1, h2⟩ := k.obj l' o' e'
      refine ⟨b, h1, h2.mono (Fr.put h nf).mv ?_⟩
      show upd w.H a u b = w.H b
      exact upd_ne fun (z : b = a) => q (k.inj l' l b h1 (by rw [z]; exact h))
  inj := k.inj
  dom := fun l' e => by
    have e' : (if l' = l then some o else w.S.get l') = none := e
    by_cases q : l' = l
    · rw [if_pos q] at e'
      cases e'
    · rw [if_neg q] at e'
      exact k.dom l' e'
  nxt := fun l' e => by
    have e1 : w.S.get l' = none := k.nxt l' e
    show (if l' = l then some o else w.S.get l') = none
    rw [if_neg (fun q => by rw [q, h0] at e1; cases e1)]
    exact e1
  dis := k.dis
  bh := fun b hb => by
    obtain ⟨z, hz⟩ := k.bh b hb
    by_cases q : b = a
    · exact ⟨u, by show upd w.H a u b = _; rw [q, upd_same]⟩
    · exact ⟨z, by show upd w.H a u b = _; rw [upd_ne q]; exact hz⟩
  tb := fun b ps e => by
    have e : upd w.H a u b = some (.tbl ps) := e
    by_cases q : b = a
    · rw [q]
      exact ⟨l, h⟩
    · rw [upd_ne q] at e
      exact k.tb b ps e
  bx := fun b φ hb => by
    show upd w.H a u b ≠ _
    rw [upd_ne (fun (q : b = a) => k.dis b hb ⟨l, by rw [q]; exact h⟩)]
    exact k.bx b φ hb
  ce := fun c ob e => by
    have z := k.ce c ob e
    show upd w.H a u c = _
    rw [upd_ne (fun (q : c = a) => nf _ _ (by rw [← q]; exact z))]
    exact z
/-- a new object in the store, at an address that is new -/
def Wd.born (w : Wd) (o : MO) (p : Addr) (u : HO) : Wd := { w with io := fun l => if l = w.S.next then some p else w.io l, S := w.S.new o, H := upd w.H p u }
theorem Ok.noio {K : PySem.W.Frag} {G : Gx} {w : Wd} (k : Ok K G w) : w.io w.S.next = none := k.dom _ (k.nxt _ (Nat.le_refl _))
theorem Fr.born {K : PySem.W.Frag} {G : Gx} {w : Wd} {o : MO} {p : Addr} {u : HO} (k : Ok K G w) (h : w.H p = none) : Fr w (w.born o p u) := ⟨fun l a e => by
  show (if l = w.S.next then some p else w.io l) = some a
  rw [if_neg (fun q => by rw [q, k.noio] at e; cases e)]
  exact e, fun a z e nu => ⟨by
    show upd w.H p u a = some z
    rw [upd_ne (ne_of_none e h)]
    exact e, fun ⟨l, q⟩ => by
    have q' : (if l = w.S.next then some p else w.io l) = some a := q
    by_cases z : l = w.S.next
    · rw [if_pos z] at q'
      cases q'
      rw [h] at e
      cases e
    · rw [if_neg z] at q'
      exact nu ⟨l, q'⟩⟩, fun a q z e => by
    show upd w.H p u a = some (.frz q z)
    rw [upd_ne (ne_of_none e h)]
    exact e, rfl⟩
theorem Ok.born {K : PySem.W.Frag} {G : Gx} {w : Wd} {o : MO} {p : Addr} {u : HO} (k : Ok K G w) (h : w.H p = none) (r : RO K G (w.born o p u) p o) : Ok K G (w.born o p u) where
  obj := fun l o' e => by
    have e' : (if l = w.S.next then some o else w.S.get l) = some o' := e
    show ∃ a, (if l = w.S.next then some p else w.io l) = some a ∧ _
    by_cases q : l = w.S.next
    · rw [if_pos q] at e' ⊢
      cases e'
      exact ⟨p, rfl, r⟩
    · rw [if_neg q] at e' ⊢
      obtain ⟨a, h1, h2⟩ := k.obj l o' e'
      obtain ⟨z, hz⟩ := h2.some
      refine ⟨a, h1, h2.mono (Fr.born k h).mv ?_⟩
      show upd w.H p u a = w.H a
      exact upd_ne (ne_of_none hz h)
  inj := fun l l' a e e' => by
    have q : (if l = w.S.next then some p else w.io l) = some a := e
    have q' : (if l' = w.S.next then some p else w.io l') = some a := e'
    by_cases z : l = w.S.next <;> by_cases z' : l' = w.S.next
    · rw [z, z']
    · rw [if_pos z] at q
      rw [if_neg z'] at q'
      cases q
      obtain ⟨x, hx⟩ := k.uh ⟨l', q'⟩
      rw [h] at hx
      cases hx
    · rw [if_neg z] at q
      rw [if_pos z'] at q'
      cases q'
      obtain ⟨x, hx⟩ := k.uh ⟨l, q⟩
      rw [h] at hx
      cases hx
    · rw [if_neg z] at q
      rw [if_neg z'] at q'
      exact k.inj l l' a q q'
  dom := fun l e => by
    have e' : (if l = w.S.next then some o else w.S.get l) = none := e
    show (if l = w.S.next then some p else w.io l) = none
    by_cases q : l = w.S.next
    · rw [if_pos q] at e'
      cases e'
    · rw [if_neg q] at e' ⊢
      exact k.dom l e'
  nxt := fun l e => by
    have e : w.S.next + 1 ≤ l := e
    show (if l = w.S.next then some o else w.S.get l) = none
    rw [if_neg (by omega)]
    exact k.nxt l (by omega)
  dis := fun a b ⟨l, q⟩ => by
    have q' : (if l = w.S.next then some p else w.io l) = some a := q
    by_cases z : l = w.S.next
    · rw [if_pos z] at q'
      cases q'
      obtain ⟨x, hx⟩ := k.bh _ b
      rw [h] at hx
      cases hx
    · rw [if_neg z] at q'
      exact k.dis a b ⟨l, q'⟩
  bh := fun a b => by
    obtain ⟨z, hz⟩ := k.bh a b
    refine ⟨z, ?_⟩
    show upd w.H p u a = _
    rw [upd_ne (ne_of_none hz h)]
    exact hz
  tb := fun a ps e => by
    have e : upd w.H p u a = some (.tbl ps) := e
    by_cases q : a = p
    · refine ⟨w.S.next, ?_⟩
      show (if w.S.next = w.S.next then some p else w.io w.S.next) = some a
      rw [if_pos rfl, q]
    · rw [upd_ne q] at e
      obtain ⟨l, z⟩ := k.tb a ps e
      refine ⟨l, ?_⟩
      show (if l = w.S.next then some p else w.io l) = some a
      rw [if_neg (fun y => by rw [y, k.noio] at z; cases z)]
      exact z
  bx := fun a φ b => by
    obtain ⟨z, hz⟩ := k.bh a b
    show upd w.H p u a ≠ _
    rw [upd_ne (ne_of_none hz h)]
    exact k.bx a φ b
  ce := fun c ob e => by
    have z := k.ce c ob e
    show upd w.H p u c = _
    rw [upd_ne (ne_of_none z h)]
    exact z
end AH
set_option maxRecDepth 100000
set_option maxHeartbeats 2000000
namespace AH
open PySem L2
inductive Sl where
  | no | val (d : D) | acc (ds : List D)
abbrev Rho := List Sl
abbrev Ev := Rho → Sto → Option (D × Sto)
abbrev EvL := Rho → Sto → Option (List D × Sto)
abbrev EvT := Rho → Sto → Option (Bool × Sto)
structure RS (K : PySem.W.Frag) (w : Wd) (σ : St) (ρ : Rho) : Prop where
  len : σ.length = ρ.length
  val : ∀ (i : Nat) (d : D), ρ[i]? = some (.val d) → ∃ v, σ[i]? = some (some v) ∧ RV K w v d
  acc : ∀ (i : Nat) (ds : List D), ρ[i]? = some (.acc ds) → ∃ a vs, σ[i]? = some (some (.ref a)) ∧ w.H a = some (.lst vs) ∧ RVs K w vs ds ∧ w.B a
theorem RS.fr {K : PySem.W.Frag} {G : Gx} {w w' : Wd} {σ : St} {ρ : Rho} (r : RS K w σ ρ) (k : Ok K G w) (f : Fr w w') : RS K w' σ ρ :=
  ⟨r.len, fun i d h => let ⟨v, h1, h2⟩ := r.val i d h; ⟨v, h1, h2.mono f.mv⟩, fun i ds h => by
    obtain ⟨a, vs, h1, h2, h3, h4⟩ := r.acc i ds h
    exact ⟨a, vs, h1, (f.hp a _ h2 (k.dis a h4)).1, h3.mono f.mv, by rw [f.bb]; exact h4⟩⟩
section
variable (K : PySem.W.Frag) (G : Gx)
/-- what follows a value; a new list; a test; arguments -/
abbrev Kd (w : Wd) (d : D) (S' : Sto) (Q : VK) : Prop := ∀ v w', w'.S = S' → Fr w w' → Ok K G w' → RV K w' v d → Q v w'.H
abbrev Kf (w : Wd) (ds : List D) (S' : Sto) (Q : VK) : Prop := ∀ p vs w', w'.S = S' → Fr w w' → w.H p = none → Ok K G (w'.ban p) → w'.H p = some (.lst vs) → RVs K (w'.ban p) vs ds → Q (.ref p) w'.H
abbrev Kt (w : Wd) (b : Bool) (S' : Sto) (Q : Bool → Hp → Prop) : Prop := ∀ w', w'.S = S' → Fr w w' → Ok K G w' → Q b w'.H
abbrev Ka (w : Wd) (ds : List D) (S' : Sto) (Q : List V → Hp → Prop) : Prop := ∀ vs w', w'.S = S' → Fr w w' → Ok K G w' → RVs K w' vs ds → Q vs w'.H
def SE (te : TE) (ev : Ev) : Prop := ∀ w σ ρ d S', Ok K G w → RS K w σ ρ → ev ρ w.S = some (d, S') → ∀ Q, Kd K G w d S' Q → te σ w.H Q
def SF (te : TE) (ev : EvL) : Prop := ∀ w σ ρ ds S', Ok K G w → RS K w σ ρ → ev ρ w.S = some (ds, S') → ∀ Q, Kf K G w ds S' Q → te σ w.H Q
def STt (tt : TT) (ev : EvT) : Prop := ∀ w σ ρ b S', Ok K G w → RS K w σ ρ → ev ρ w.S = some (b, S') → ∀ Q, Kt K G w b S' Q → tt σ w.H Q
def SA (ta : TA) (ev : EvL) : Prop := ∀ w σ ρ ds S', Ok K G w → RS K w σ ρ → ev ρ w.S = some (ds, S') → ∀ Q, Ka K G w ds S' Q → ta σ w.H Q
def S2 (r : R2) (f : D → D → Sto → Option (D × Sto)) : Prop := ∀ w x y dx dy d S', Ok K G w → RV K w x dx → RV K w y dy → f dx dy w.S = some (d, S') → ∀ Q, Kd K G w d S' Q → r x y w.H Q
def S2f (r : R2) (f : D → D → Sto → Option (List D × Sto)) : Prop := ∀ w x y dx dy ds S', Ok K G w → RV K w x dx → RV K w y dy → f dx dy w.S = some (ds, S') → ∀ Q, Kf K G w ds S' Q → r x y w.H Q
def SN (r : List V → Hp → VK → Prop) (f : List D → Sto → Option (D × Sto)) : Prop := ∀ w xs ds d S', Ok K G w → RVs K w xs ds → f ds w.S = some (d, S') → ∀ Q, Kd K G w d S' Q → r xs w.H Q
def SNf (r : List V → Hp → VK → Prop) (f : List D → Sto → Option (List D × Sto)) : Prop := ∀ w xs ds d S', Ok K G w → RVs K w xs ds → f ds w.S = some (d, S') → ∀ Q, Kf K G w d S' Q → r xs w.H Q
end
section
variable {K : PySem.W.Frag} {G : Gx}
/-- a step, then what follows -/
theorem Kd.from {w w1 : Wd} {d : D} {S' : Sto} {Q : VK} (k : Kd K G w d S' Q) (f : Fr w w1) : Kd K G w1 d S' Q := fun v w' e f' o r => k v w' e (f.trans f') o r
theorem Kf.from {w w1 : Wd} {d : List D} {S' : Sto} {Q : VK} (k : Kf K G w d S' Q) (f : Fr w w1) (o1 : Ok K G w1) : Kf K G w1 d S' Q := fun p vs w' e f' n o h r => k p vs w' e (f.trans f') (f.free' o1 n) o h r
theorem Kt.from {w w1 : Wd} {d : Bool} {S' : Sto} {Q : Bool → Hp → Prop} (k : Kt K G w d S' Q) (f : Fr w w1) : Kt K G w1 d S' Q := fun w' e f' o => k w' e (f.trans f') o
theorem Ka.from {w w1 : Wd} {d : List D} {S' : Sto} {Q : List V → Hp → Prop} (k : Ka K G w d S' Q) (f : Fr w w1) : Ka K G w1 d S' Q := fun v w' e f' o r => k v w' e (f.trans f') o r
theorem Kd.now {w : Wd} {d : D} {Q : VK} {v : V} (k : Kd K G w d w.S Q) (o : Ok K G w) (r : RV K w v d) : Q v w.H := k v w rfl (Fr.refl w) o r
/-- a list just made -/
theorem Kf.new {w : Wd} {ds : List D} {Q : VK} {vs : List V} (k : Kf K G w ds w.S Q) (o : Ok K G w) (r : RVs K w vs ds) {p : Addr} (h : w.H p = none) : Q (.ref p) (upd w.H p (.lst vs)) := by
  have m : Mv w ((w.add p (.lst vs)).ban p) := ⟨fun _ _ e => e, fun a u e q => ⟨by
    show upd w.H p (.lst vs) a = some u
    rw [upd_ne (ne_of_none e h)]
    exact e, fun z => by
    rcases z with (b | b) | b
    · exact q (.inl b)
    · rw [b, h] at e
      cases e
    · exact q (.inr b)⟩, fun a q u e => by
    show upd w.H p (.lst vs) a = some (.frz q u)
    rw [upd_ne (ne_of_none e h)]
    exact e⟩
  refine k p vs (w.add p (.lst vs)) rfl (Fr.add h) h ?_ upd_same (r.mono m)
  have o1 : Ok K G (w.add p (.lst vs)) := o.add h
  refine ⟨fun l u e => ?_, o1.inj, o1.dom, o1.nxt, fun a b => ?_, fun a b => ?_, o1.tb, fun a φ b => ?_, o1.ce⟩
  · obtain ⟨a, h1, h2⟩ := o.obj l u e
    obtain ⟨z, hz⟩ := h2.some
    refine ⟨a, h1, h2.mono m ?_⟩
    show upd w.H p (.lst vs) a = w.H a
    exact upd_ne (ne_of_none hz h)
  · rcases b with b | b
    · exact o.dis a b
    · intro u
      obtain ⟨z, hz⟩ := o.uh u
      rw [b, h] at hz
      cases hz
  · rcases b with b | b
    · exact o1.bh a b
    · exact ⟨.lst vs, by rw [b]; exact upd_same⟩
  · rcases b with b | b
    · exact o1.bx a φ b
    · intro z
      have z' : upd w.H p (.lst vs) a = some (.ext φ) := z
      rw [b, upd_same] at z'
      cases z'
theorem Ok.unban {w : Wd} {p : Addr} (o : Ok K G (w.ban p)) : Ok K G w := o.shrink (B := w.B) (w := w.ban p) fun a b => .inl b
theorem RVs.unban {w : Wd} {p : Addr} {vs : List V} {ds : List D} (r : RVs K (w.ban p) vs ds) : RVs K w vs ds := r.mono (Mv.shrink (w := w.ban p) (B := w.B) fun a b => .inl b)
theorem RV.unban {w : Wd} {p : Addr} {v : V} {d : D} (r : RV K (w.ban p) v d) : RV K w v d := r.mono (Mv.shrink (w := w.ban p) (B := w.B) fun a b => .inl b)
/-- a new list as a value -/
theorem Kf.of {w : Wd} {ds : List D} {S' : Sto} {Q : VK} (k : Kd K G w (.lst ds) S' Q) (o : Ok K G w) : Kf K G w ds S' Q := fun p vs w' e f n o' h r => by
  refine k _ w' e f o'.unban (.lst h (fun z => ?_) r.unban)
  rcases z with b | b
  · rw [f.bb] at b
    obtain ⟨z, hz⟩ := o.bh p b
    rw [n] at hz
    cases hz
  · exact o'.dis p (.inr rfl) b
/-- a tuple just made -/
theorem Kd.tup {w : Wd} {ds : List D} {Q : VK} {vs : List V} (k : Kd K G w (.tup ds) w.S Q) (o : Ok K G w) (r : RVs K w vs ds) {p : Addr} (h : w.H p = none) : Q (.ref p) (upd w.H p (.tup vs)) :=
  k _ (w.add p (.tup vs)) rfl (Fr.add h) (o.add h) (.tup upd_same (fun z => o.fresh h z) (r.mono (Fr.add h).mv))
end
def eVar (i : Nat) : Ev := fun ρ S => match ρ[i]? with
  | some (.val d) => some (d, S)
  | _ => none
def eC (d : D) : Ev := fun _ S => some (d, S)
def e2 {α : Type} (f : D → D → Sto → Option (α × Sto)) (a b : Ev) : Rho → Sto → Option (α × Sto) := fun ρ S => (a ρ S).bind fun x => (b ρ x.2).bind fun y => f x.1 y.1 y.2
def e1 {α : Type} (f : D → Sto → Option (α × Sto)) (a : Ev) : Rho → Sto → Option (α × Sto) := fun ρ S => (a ρ S).bind fun x => f x.1 x.2
def eN {α : Type} (f : List D → Sto → Option (α × Sto)) (a : EvL) : Rho → Sto → Option (α × Sto) := fun ρ S => (a ρ S).bind fun x => f x.1 x.2
def aNil : EvL := fun _ S => some ([], S)
def aCons (a : Ev) (b : EvL) : EvL := fun ρ S => (a ρ S).bind fun x => (b ρ x.2).bind fun y => some (x.1 :: y.1, y.2)
def eV (a : EvL) : Ev := fun ρ S => (a ρ S).bind fun x => some (.lst x.1, x.2)
def eTup (a : EvL) : Ev := fun ρ S => (a ρ S).bind fun x => if x.1.length ≤ sizeLine then some (.tup x.1, x.2) else none
def fLst (a : EvL) : EvL := fun ρ S => (a ρ S).bind fun x => if x.1.length ≤ sizeLine then some (x.1, x.2) else none
def tOf (a : Ev) : EvT := fun ρ S => (a ρ S).bind fun x => match x.1 with
  | .bl b => some (b, x.2)
  | _ => none
def tAndE (a b : EvT) : EvT := fun ρ S => (a ρ S).bind fun x => if x.1 = true then b ρ x.2 else some (false, x.2)
def tOrE (a b : EvT) : EvT := fun ρ S => (a ρ S).bind fun x => if x.1 = true then some (true, x.2) else b ρ x.2
def tNotE (a : EvT) : EvT := fun ρ S => (a ρ S).bind fun x => some (!x.1, x.2)
def eAndE (a b : Ev) : Ev := fun ρ S => (a ρ S).bind fun x => match x.1 with
  | .bl true => b ρ x.2
  | .bl false => some (.bl false, x.2)
  | _ => none
def eOrE (a b : Ev) : Ev := fun ρ S => (a ρ S).bind fun x => match x.1 with
  | .bl true => some (.bl true, x.2)
  | .bl false => b ρ x.2
  | _ => none
def eNotE (a : Ev) : Ev := fun ρ S => (a ρ S).bind fun x => match x.1 with
  | .bl c => some (.bl (!c), x.2)
  | _ => none
def eIf (t : EvT) (a b : Ev) : Ev := fun ρ S => (t ρ S).bind fun x => if x.1 = true then a ρ x.2 else b ρ x.2
def eIsN (a : Ev) : Ev := fun ρ S => (a ρ S).bind fun x => match x.1 with
  | .non => some (.bl true, x.2)
  | .raw _ => none
  | _ => some (.bl false, x.2)
def eNotN (a : Ev) : Ev := fun ρ S => (a ρ S).bind fun x => match x.1 with
  | .non => some (.bl false, x.2)
  | .raw _ => none
  | _ => some (.bl true, x.2)
def eChain (f g : D → D → Sto → Option (D × Sto)) (a b c : Ev) : Ev := fun ρ S => (a ρ S).bind fun x => (b ρ x.2).bind fun y => (f x.1 y.1 y.2).bind fun z => match z.1 with
  | .bl true => (c ρ z.2).bind fun u => g y.1 u.1 u.2
  | .bl false => some (.bl false, z.2)
  | _ => none
section
variable {K : PySem.W.Frag} {G : Gx} {ta tb tc te : TE} {ea eb ec : Ev} {t u : TT} {et eu : EvT}
theorem bnd {α β : Type} {o : Option α} {f : α → Option β} {b : β} (h : o.bind f = some b) : ∃ a, o = some a ∧ f a = some b := Option.bind_eq_some_iff.mp h
theorem se_var {i : Nat} : SE K G (tVar i) (eVar i) := fun w σ ρ d S' o r h Q k => by
  unfold eVar at h
  split at h
  · rename_i d' e
    cases h
    obtain ⟨v, h1, h2⟩ := r.val i _ e
    exact ⟨v, h1, Kd.now k o h2⟩
  · cases h
theorem se_c {v : V} {d : D} (hd : ∀ w, RV K w v d) : SE K G (tC v) (eC d) := fun w σ ρ d' S' o r h Q k => by
  cases h
  exact Kd.now k o (hd w)
/-- the second operand is had behind the first -/
theorem se_2 {α : Type} {f : D → D → Sto → Option (α × Sto)} (ha : SE K G ta ea) (hb : SE K G tb eb) {w : Wd} {σ : St} {ρ : Rho} {z : α} {S' : Sto} (o : Ok K G w) (r : RS K w σ ρ) (h : e2 f ea eb ρ w.S = some (z, S')) {R : V → V → Hp → Prop}
    (k : ∀ x y dx dy w', Fr w w' → Ok K G w' → RV K w' x dx → RV K w' y dy → f dx dy w'.S = some (z, S') → R x y w'.H) : ta σ w.H fun x H1 => tb σ H1 fun y H2 => R x y H2 := by
  obtain ⟨⟨dx, S1⟩, h1, h2⟩ := bnd h
  obtain ⟨⟨dy, S2⟩, h3, h4⟩ := bnd h2
  refine ha w σ ρ dx S1 o r h1 _ fun x w1 e1 f1 o1 r1 => ?_
  subst e1
  refine hb w1 σ ρ dy S2 o1 (r.fr o f1) h3 _ fun y w2 e2 f2 o2 r2 => ?_
  subst e2
  exact k x y dx dy w2 (f1.trans f2) o2 (r1.mono f2.mv) r2 h4
theorem se_op {r : R2} {f : D → D → Sto → Option (D × Sto)} (hr : S2 K G r f) (ha : SE K G ta ea) (hb : SE K G tb eb) : SE K G (tOp r ta tb) (e2 f ea eb) := fun w σ ρ d S' o rs h Q k =>
  se_2 ha hb o rs h fun x y dx dy w' f' o' rx ry hh => hr w' x y dx dy d S' o' rx ry hh Q (Kd.from k f')
theorem sf_op {r : R2} {f : D → D → Sto → Option (List D × Sto)} (hr : S2f K G r f) (ha : SE K G ta ea) (hb : SE K G tb eb) : SF K G (tOp r ta tb) (e2 f ea eb) := fun w σ ρ d S' o rs h Q k =>
  se_2 ha hb o rs h fun x y dx dy w' f' o' rx ry hh => hr w' x y dx dy d S' o' rx ry hh Q (Kf.from k f' o')
theorem se_of {el : EvL} (h : SF K G te el) : SE K G te (eV el) := fun w σ ρ d S' o rs hh Q k => by
  obtain ⟨⟨ds, S1⟩, h1, h2⟩ := bnd hh
  cases h2
  exact h w σ ρ ds _ o rs h1 Q (Kf.of k o)
theorem sa_nil : SA K G tNil aNil := fun w σ ρ d S' o rs h Q k => by
  cases h
  exact k [] w rfl (Fr.refl w) o .nil
theorem sa_cons {tr : TA} {er : EvL} (ha : SE K G ta ea) (hr : SA K G tr er) : SA K G (tCons ta tr) (aCons ea er) := fun w σ ρ d S' o rs h Q k => by
  obtain ⟨⟨dx, S1⟩, h1, h2⟩ := bnd h
  obtain ⟨⟨dy, S2⟩, h3, h4⟩ := bnd h2
  cases h4
  refine ha w σ ρ dx S1 o rs h1 _ fun x w1 e1 f1 o1 r1 => ?_
  subst e1
  refine hr w1 σ ρ dy _ o1 (rs.fr o f1) h3 _ fun xs w2 e2 f2 o2 r2 => ?_
  exact k (x :: xs) w2 e2 (f1.trans f2) o2 (.cons (r1.mono f2.mv) r2)
theorem se_tup {ta : TA} {el : EvL} (ha : SA K G ta el) : SE K G (tTup ta) (eTup el) := fun w σ ρ d S' o rs h Q k => by
  obtain ⟨⟨ds, S1⟩, h1, h2⟩ := bnd h
  split at h2
  · rename_i hl
    cases h2
    refine ha w σ ρ ds _ o rs h1 _ fun vs w1 e1 f1 o1 r1 => ⟨by rw [r1.length]; exact hl, fun p hp => ?_⟩
    subst e1
    exact Kd.tup (Kd.from k f1) o1 r1 hp
  · cases h2
theorem sf_lst {ta : TA} {el : EvL} (ha : SA K G ta el) : SF K G (tLst ta) (fLst el) := fun w σ ρ d S' o rs h Q k => by
  obtain ⟨⟨ds, S1⟩, h1, h2⟩ := bnd h
  split at h2
  · rename_i hl
    cases h2
    refine ha w σ ρ ds _ o rs h1 _ fun vs w1 e1 f1 o1 r1 => ⟨by rw [r1.length]; exact hl, fun p hp => ?_⟩
    subst e1
    exact Kf.new (Kf.from k f1 o1) o1 r1 hp
  · cases h2
theorem se_n {ta : TA} {el : EvL} {r : List V → Hp → VK → Prop} {f : List D → Sto → Option (D × Sto)} (hr : SN K G r f) (ha : SA K G ta el) : SE K G (tCB r ta) (eN f el) := fun w σ ρ d S' o rs h Q k => by
  obtain ⟨⟨ds, S1⟩, h1, h2⟩ := bnd h
  refine ha w σ ρ ds _ o rs h1 _ fun vs w1 e1 f1 o1 r1 => ?_
  subst e1
  exact hr w1 vs ds d S' o1 r1 h2 Q (Kd.from k f1)
theorem sf_n {ta : TA} {el : EvL} {r : List V → Hp → VK → Prop} {f : List D → Sto → Option (List D × Sto)} (hr : SNf K G r f) (ha : SA K G ta el) : SF K G (tCB r ta) (eN f el) := fun w σ ρ d S' o rs h Q k => by
  obtain ⟨⟨ds, S1⟩, h1, h2⟩ := bnd h
  refine ha w σ ρ ds _ o rs h1 _ fun vs w1 e1 f1 o1 r1 => ?_
  subst e1
  exact hr w1 vs ds d S' o1 r1 h2 Q (Kf.from k f1 o1)
theorem bl_of {w : Wd} {v : V} {b : Bool} (r : RV K w v (.bl b)) : v = .bl b := by cases r; rfl
theorem st_test (h : SE K G ta ea) : STt K G (tTest ta) (tOf ea) := fun w σ ρ b S' o rs hh Q k => by
  obtain ⟨⟨d, S1⟩, h1, h2⟩ := bnd hh
  cases d with
  | bl c =>
    cases h2
    exact h w σ ρ _ _ o rs h1 _ fun v w1 e1 f1 o1 r1 => ⟨b, bl_of r1, k w1 e1 f1 o1⟩
  | _ => cases h2
theorem st_B (h : SE K G ta ea) : STt K G (tB ta) (tOf ea) := fun w σ ρ b S' o rs hh Q k => by
  obtain ⟨⟨d, S1⟩, h1, h2⟩ := bnd hh
  cases d with
  | bl c =>
    cases h2
    exact h w σ ρ _ _ o rs h1 _ fun v w1 e1 f1 o1 r1 => ⟨b, bl_of r1, k w1 e1 f1 o1⟩
  | _ => cases h2
theorem st_and (h1 : STt K G t et) (h2 : STt K G u eu) : STt K G (tAnd t u) (tAndE et eu) := fun w σ ρ b S' o rs hh Q k => by
  obtain ⟨⟨c, S1⟩, e1, e2⟩ := bnd hh
  refine h1 w σ ρ c S1 o rs e1 _ fun w1 q1 f1 o1 => ?_
  subst q1
  cases c with
  | true =>
    show u σ w1.H Q
    exact h2 w1 σ ρ b S' o1 (rs.fr o f1) e2 Q (Kt.from k f1)
  | false =>
    show Q false w1.H
    cases e2
    exact k w1 rfl f1 o1
theorem st_or (h1 : STt K G t et) (h2 : STt K G u eu) : STt K G (tOr t u) (tOrE et eu) := fun w σ ρ b S' o rs hh Q k => by
  obtain ⟨⟨c, S1⟩, e1, e2⟩ := bnd hh
  refine h1 w σ ρ c S1 o rs e1 _ fun w1 q1 f1 o1 => ?_
  subst q1
  cases c with
  | false =>
    show u σ w1.H Q
    exact h2 w1 σ ρ b S' o1 (rs.fr o f1) e2 Q (Kt.from k f1)
  | true =>
    show Q true w1.H
    cases e2
    exact k w1 rfl f1 o1
theorem st_not (h : STt K G t et) : STt K G (tNot t) (tNotE et) := fun w σ ρ b S' o rs hh Q k => by
  obtain ⟨⟨c, S1⟩, e1, e2⟩ := bnd hh
  cases e2
  exact h w σ ρ c _ o rs e1 _ fun w1 q1 f1 o1 => k w1 q1 f1 o1
theorem se_and (h1 : SE K G ta ea) (h2 : SE K G tb eb) : SE K G (tAndV ta tb) (eAndE ea eb) := fun w σ ρ d S' o rs hh Q k => by
  obtain ⟨⟨c, S1⟩, q1, q2⟩ := bnd hh
  refine h1 w σ ρ c S1 o rs q1 _ fun v w1 e1 f1 o1 r1 => ?_
  subst e1
  cases c with
  | bl b =>
    refine ⟨b, bl_of r1, ?_⟩
    cases b with
    | true => exact h2 w1 σ ρ d S' o1 (rs.fr o f1) q2 Q (Kd.from k f1)
    | false =>
      cases q2
      exact Kd.now (Kd.from k f1) o1 .bl
  | _ => cases q2
theorem se_or (h1 : SE K G ta ea) (h2 : SE K G tb eb) : SE K G (tOrV ta tb) (eOrE ea eb) := fun w σ ρ d S' o rs hh Q k => by
  obtain ⟨⟨c, S1⟩, q1, q2⟩ := bnd hh
  refine h1 w σ ρ c S1 o rs q1 _ fun v w1 e1 f1 o1 r1 => ?_
  subst e1
  cases c with
  | bl b =>
    refine ⟨b, bl_of r1, ?_⟩
    cases b with
    | false => exact h2 w1 σ ρ d S' o1 (rs.fr o f1) q2 Q (Kd.from k f1)
    | true =>
      cases q2
      exact Kd.now (Kd.from k f1) o1 .bl
  | _ => cases q2
theorem se_not (h1 : SE K G ta ea) : SE K G (tNotV ta) (eNotE ea) := fun w σ ρ d S' o rs hh Q k => by
  obtain ⟨⟨c, S1⟩, q1, q2⟩ := bnd hh
  refine h1 w σ ρ c S1 o rs q1 _ fun v w1 e1 f1 o1 r1 => ?_
  subst e1
  cases c with
  | bl b =>
    cases q2
    exact ⟨b, bl_of r1, Kd.now (Kd.from k f1) o1 .bl⟩
  | _ => cases q2
theorem se_if (h : STt K G t et) (h1 : SE K G ta ea) (h2 : SE K G tb eb) : SE K G (tIf t ta tb) (eIf et ea eb) := fun w σ ρ d S' o rs hh Q k => by
  obtain ⟨⟨c, S1⟩, q1, q2⟩ := bnd hh
  refine h w σ ρ c S1 o rs q1 _ fun w1 e1 f1 o1 => ?_
  subst e1
  cases c with
  | true => exact h1 w1 σ ρ d S' o1 (rs.fr o f1) q2 Q (Kd.from k f1)
  | false => exact h2 w1 σ ρ d S' o1 (rs.fr o f1) q2 Q (Kd.from k f1)
theorem isN_of {w : Wd} {v : V} {d : D} (r : RV K w v d) (hn : ∀ x, d ≠ .raw x) : decide (v = .non) = (match d with | .non => true | _ => false) := by
  cases r with
  | raw => exact absurd rfl (hn _)
  | non => rfl
  | _ => rfl
theorem se_isN (h1 : SE K G ta ea) : SE K G (tIsN ta) (eIsN ea) := fun w σ ρ d S' o rs hh Q k => by
  obtain ⟨⟨c, S1⟩, q1, q2⟩ := bnd hh
  refine h1 w σ ρ c S1 o rs q1 _ fun v w1 e1 f1 o1 r1 => ?_
  subst e1
  cases c with
  | raw x => cases q2
  | _ =>
    cases q2
    rw [isN_of r1 (fun x => by intro z; cases z)]
    exact Kd.now (Kd.from k f1) o1 .bl
theorem se_notN (h1 : SE K G ta ea) : SE K G (tNotN ta) (eNotN ea) := fun w σ ρ d S' o rs hh Q k => by
  obtain ⟨⟨c, S1⟩, q1, q2⟩ := bnd hh
  refine h1 w σ ρ c S1 o rs q1 _ fun v w1 e1 f1 o1 r1 => ?_
  subst e1
  cases c with
  | raw x => cases q2
  | _ =>
    cases q2
    rw [isN_of r1 (fun x => by intro z; cases z)]
    exact Kd.now (Kd.from k f1) o1 .bl
theorem se_chain {r r' : R2} {f g : D → D → Sto → Option (D × Sto)} (hr : S2 K G r f) (hr' : S2 K G r' g) (ha : SE K G ta ea) (hb : SE K G tb eb) (hc : SE K G tc ec) : SE K G (tChain r r' ta tb tc) (eChain f g ea eb ec) := fun w σ ρ d S' o rs h Q k => by
  have h' : e2 (fun x y S => (f x y S).bind fun z => match z.1 with
    | .bl true => (ec ρ z.2).bind fun u => g y u.1 u.2
    | .bl false => some (.bl false, z.2)
    | _ => none) ea eb ρ w.S = some (d, S') := h
  refine se_2 ha hb o rs h' fun x y dx dy w1 f1 o1 rx ry hh => ?_
  obtain ⟨⟨dz, S1⟩, q1, q2⟩ := bnd hh
  refine hr w1 x y dx dy dz S1 o1 rx ry q1 _ fun z w2 e2' f2 o2 rz => ?_
  subst e2'
  cases dz with
  | bl b =>
    refine ⟨b, bl_of rz, ?_⟩
    cases b with
    | true =>
      obtain ⟨⟨du, S3⟩, q3, q4⟩ := bnd q2
      refine hc w2 σ ρ du S3 o2 (rs.fr o (f1.trans f2)) q3 _ fun u w3 e3 f3 o3 ru => ?_
      subst e3
      exact hr' w3 y u dy du d S' o3 (ry.mono (f2.trans f3).mv) ru q4 Q (Kd.from k ((f1.trans f2).trans f3))
    | false =>
      cases q2
      exact Kd.now (Kd.from k (f1.trans f2)) o2 .bl
  | _ => cases q2
end
end AH
set_option maxRecDepth 100000
set_option maxHeartbeats 2000000
namespace AH
open PySem L2
/-- a list by value, or the store's -/
def lstOf (S : Sto) : D → Option (List D)
  | .lst ds => some ds
  | .ref l => match S.get l with
    | some (.lst ds) => some ds
    | _ => none
  | _ => none
/-- a list or a tuple -/
def seqOf (S : Sto) : D → Option (List D)
  | .tup ds => some ds
  | d => lstOf S d
def mulOk (i j : Int) : Bool := decide ((-(2 ^ 64) < i ∧ i < 2 ^ 64) ∨ (-(2 ^ 64) < j ∧ j < 2 ^ 64))
def fAdd (a b : D) (S : Sto) : Option (D × Sto) := match a, b with
  | .int i, .int j => some (.int (i + j), S)
  | .str x, .str y => if x.length + y.length ≤ sizeLine then some (.str (x ++ y), S) else none
  | .tup x, .tup y => if x.isEmpty = false ∧ x.length + y.length ≤ sizeLine then some (.tup (x ++ y), S) else none
  | _, _ => none
def fCat (a b : D) (S : Sto) : Option (List D × Sto) := (lstOf S a).bind fun x => (lstOf S b).bind fun y => if x.length + y.length ≤ sizeLine then some (x ++ y, S) else none
def fSub (a b : D) (S : Sto) : Option (D × Sto) := match a, b with
  | .int i, .int j => some (.int (i - j), S)
  | _, _ => none
def fMul (a b : D) (S : Sto) : Option (D × Sto) := match a, b with
  | .int i, .int j => if mulOk i j = true then some (.int (i * j), S) else none
  | .str x, .int n => if -1000000 ≤ n ∧ n ≤ 1000000 ∧ x.length * n.toNat ≤ 1000000 then some (.str (List.replicate n.toNat x).flatten, S) else none
  | _, _ => none
def fDiv (a b : D) (S : Sto) : Option (D × Sto) := match a, b with
  | .int i, .int j => if 0 < j ∧ j < 1073741824 then some (.int (i / j), S) else none
  | _, _ => none
def fMod (a b : D) (S : Sto) : Option (D × Sto) := match a, b with
  | .int i, .int j => if 0 < j then some (.int (i % j), S) else none
  | _, _ => none
def fNeg (a : D) (S : Sto) : Option (D × Sto) := match a with
  | .int i => some (.int (-i), S)
  | _ => none
def fCmp (p : Int → Int → Bool) (a b : D) (S : Sto) : Option (D × Sto) := match a, b with
  | .int i, .int j => some (.bl (p i j), S)
  | _, _ => none
abbrev fLt := fCmp fun i j => decide (i < j)
abbrev fLe := fCmp fun i j => decide (i ≤ j)
abbrev fGt := fCmp fun i j => decide (j < i)
abbrev fGe := fCmp fun i j => decide (j ≤ i)
mutual
def toPy : D → Option PyData
  | .non => some .none
  | .bl b => some (.bool b)
  | .int i => some (.int i)
  | .str c => some (.str ⟨c.toArray⟩)
  | .tup ds => (toPys ds).map .tuple
  | .lst ds => (toPys ds).map .list
  | .ref _ => none
  | .raw _ => none
  | .scr _ => none
  | .exn _ _ _ _ => none
  | .fact _ _ _ _ => none
def toPys : List D → Option (List PyData)
  | [] => some []
  | d :: ds => match toPy d, toPys ds with
    | some p, some ps => some (p :: ps)
    | _, _ => none
end
/-- the store's list read -/
def toPyS (S : Sto) (d : D) : Option PyData := match d with
  | .ref l => match S.get l with
    | some (.lst ds) => (toPys ds).map .list
    | _ => none
  | d => toPy d
def eqPy (p q : PyData) : Option Bool := if SeqAt.shaped p = true ∧ SeqAt.shaped q = true then some (PyData.eqv p q) else none
def eqD (S : Sto) (a b : D) : Option Bool := match a, b with
  | .int i, .int j => some (decide (i = j))
  | .str x, .str y => some (decide (x = y))
  | .bl x, .bl y => some (decide (x = y))
  | .non, .non => some true
  | .non, .int _ => some false
  | .int _, .non => some false
  | a, b => match toPyS S a, toPyS S b with
    | some p, some q => eqPy p q
    | _, _ => none
def fEq (a b : D) (S : Sto) : Option (D × Sto) := (eqD S a b).map fun c => (.bl c, S)
def fNe (a b : D) (S : Sto) : Option (D × Sto) := (eqD S a b).map fun c => (.bl (!c), S)
/-- a sign in a text -/
def fInS (a b : D) (S : Sto) : Option (D × Sto) := match a, b with
  | .str [c], .str z => some (.bl (decide (c ∈ z)), S)
  | _, _ => none
def fNotInS (a b : D) (S : Sto) : Option (D × Sto) := match a, b with
  | .str [c], .str z => some (.bl (!decide (c ∈ z)), S)
  | _, _ => none
/-- flat things -/
def flatD : D → Option V
  | .non => some .non
  | .int i => some (.int i)
  | .str c => some (.str ⟨c.toArray⟩)
  | .bl b => some (.bl b)
  | _ => none
def flatDs : List D → Option (List V)
  | [] => some []
  | d :: ds => match flatD d, flatDs ds with
    | some p, some ps => some (p :: ps)
    | _, _ => none
def fIn (neg : Bool) (a b : D) (S : Sto) : Option (D × Sto) := (flatD a).bind fun x => (seqOf S b).bind fun ds => (flatDs ds).bind fun xs => some (.bl (if neg then !inV x xs else inV x xs), S)
def fIx (a b : D) (S : Sto) : Option (D × Sto) := match b with
  | .int i => match a with
    | .str z => if z.length ≤ sizeLine then (atI z i).map fun c => (.str [c], S) else none
    | a => (seqOf S a).bind fun ds => (atI ds i).map fun d => (d, S)
  | _ => none
section
variable {K : PySem.W.Frag} {G : Gx}
theorem str_len (c : List Nat) : (⟨c.toArray⟩ : Str).length = c.length := by
  show c.toArray.size = c.length
  simp
theorem str_app (a b : List Nat) : (⟨a.toArray⟩ : Str) ++ ⟨b.toArray⟩ = ⟨(a ++ b).toArray⟩ := by
  show (⟨a.toArray ++ b.toArray⟩ : Str) = _
  simp
theorem str_eq {a b : List Nat} : ((⟨a.toArray⟩ : Str) = ⟨b.toArray⟩) = (a = b) := by
  apply propext
  constructor
  · intro h
    have e2 : a.toArray = b.toArray := congrArg Str.cps h
    have := congrArg Array.toList e2
    simpa using this
  · intro h
    rw [h]
theorem lstOf_rv {w : Wd} {v : V} {d : D} {ds : List D} (o : Ok K G w) (r : RV K w v d) (h : lstOf w.S d = some ds) : ∃ a vs, v = .ref a ∧ w.H a = some (.lst vs) ∧ RVs K w vs ds := by
  cases d with
  | lst xs =>
    cases h
    cases r with
    | lst h1 h2 h3 => exact ⟨_, _, rfl, h1, h3⟩
  | ref l =>
    dsimp only [lstOf] at h
    cases e : w.S.get l with
    | none =>
      rw [e] at h
      cases h
    | some u =>
      rw [e] at h
      cases u with
      | lst xs =>
        cases h
        cases r with
        | ref h1 =>
          obtain ⟨a, q1, vs, q2, q3⟩ := o.obj l _ e
          rw [h1] at q1
          cases q1
          exact ⟨_, vs, rfl, q2, q3⟩
      | _ => cases h
  | _ => cases h
theorem seqOf_rv {w : Wd} {v : V} {d : D} {ds : List D} (o : Ok K G w) (r : RV K w v d) (h : seqOf w.S d = some ds) : ∃ a vs, v = .ref a ∧ (SqL K w.H a vs ∨ SqT K w.H a vs) ∧ RVs K w vs ds := by
  cases d with
  | tup xs =>
    cases h
    cases r with
    | tup h1 h2 h3 => exact ⟨_, _, rfl, .inr (SqT.of h1), h3⟩
  | _ =>
    obtain ⟨a, vs, h1, h2, h3⟩ := lstOf_rv o r h
    exact ⟨a, vs, h1, .inl (SqL.of h2), h3⟩
/-- + of ints, texts, tuples -/
def rAddAny (K : PySem.W.Frag) : R2 := fun x y H Q => rI0 (fun i j => .int (i + j)) x y H Q ∨ ((∃ i j, x = .str i ∧ y = .str j ∧ i.length + j.length ≤ sizeLine ∧ Q (.str (i ++ j)) H) ∨ rCatT K x y H Q)
theorem op_addAny {X : Cx} : OpR X (binaryOp .Add) (rAddAny X.K) := op_add.or (op_add_str.or op_catT)
theorem s2_add : S2 K G (rAddAny K) fAdd := fun w x y dx dy d S' o rx ry hh Q k => by
  unfold fAdd at hh
  split at hh
  · cases hh
    cases rx
    cases ry
    exact .inl ⟨_, _, rfl, rfl, Kd.now k o .int⟩
  · split at hh
    · rename_i hl
      cases hh
      cases rx
      cases ry
      refine .inr (.inl ⟨_, _, rfl, rfl, by rw [str_len, str_len]; exact hl, ?_⟩)
      rw [str_app]
      exact Kd.now k o .str
    · cases hh
  · split at hh
    · rename_i hl
      cases hh
      cases rx with
      | tup h1 h2 h3 =>
        cases ry with
        | tup g1 g2 g3 =>
          have l1 := h3.length
          have l2 := g3.length
          refine .inr (.inr ⟨_, _, _, _, rfl, rfl, SqT.of h1, SqT.of g1, ?_, by rw [l1, l2]; exact hl.2, ?_, ?_⟩)
          · intro z
            subst z
            cases h3
            exact absurd hl.1 (by simp)
          · intro z
            subst z
            cases g3
            rw [List.append_nil] at k
            exact Kd.now k o (.tup h1 h2 h3)
          · intro z p hp
            exact Kd.tup k o (h3.append g3) hp
    · cases hh
  · cases hh
theorem op_mul_str {X : Cx} : OpR X (binaryOp .Mult) (fun x y H Q => ∃ z n, x = .str z ∧ y = .int n ∧ (-1000000 ≤ n ∧ n ≤ 1000000 ∧ z.length * n.toNat ≤ 1000000) ∧ Q (.str ⟨((List.replicate n.toNat z.cps.toList).flatten).toArray⟩) H) := by
  intro pins s σ H x y v u Q I rx ry h
  obtain ⟨z, n, rfl, rfl, ⟨h1, h2, h3⟩, q⟩ := h
  obtain ⟨t, rfl⟩ := rx
  obtain ⟨t', rfl⟩ := ry
  have fold : ∀ (m : Nat) (a : Array Nat), (List.replicate m z.cps).foldl (· ++ ·) a = (a.toList ++ (List.replicate m z.cps.toList).flatten).toArray := by
    intro m
    induction m with
    | zero =>
      intro a
      simp
    | succ m ih =>
      intro a
      rw [List.replicate_succ, List.foldl_cons, ih, List.replicate_succ, List.flatten_cons]
      simp [List.append_assoc]
  have zl : z.cps.toList.length = z.length := by
    show z.cps.toList.length = z.cps.size
    simp
  have hz : z.length = 0 → z.cps.toList = [] := fun e => by
    apply List.length_eq_zero_iff.mp
    omega
  refine PySem.P.mul_str (by simp; omega) (fun a b => ?_) (fun a b => ?_) ?_
  · intro gt
    have hn : 1 ≤ n := by omega
    have e1 : (2 ^ 63 - 1 : Int) / n ≥ (2 ^ 63 - 1 : Int) / 1000000 := by
      have := Int.ediv_le_ediv (a := n * ((2 ^ 63 - 1 : Int) / 1000000)) (b := 2 ^ 63 - 1) (c := n) (by omega) (by
        have : n * ((2 ^ 63 - 1 : Int) / 1000000) ≤ 1000000 * ((2 ^ 63 - 1 : Int) / 1000000) := Int.mul_le_mul_of_nonneg_right h2 (by decide)
        have h5 : (1000000 : Int) * ((2 ^ 63 - 1 : Int) / 1000000) ≤ 2 ^ 63 - 1 := by decide
        omega)
      rw [Int.mul_ediv_cancel_left _ (by omega)] at this
      exact this
    have e2 : (z.length : Int) ≤ 1000000 := by
      have : 1 ≤ n.toNat := by omega
      have : z.length * 1 ≤ z.length * n.toNat := Nat.mul_le_mul_left _ this
      omega
    have e3 : ((2 ^ 63 - 1 : Int) / 1000000) > 1000000 := by decide
    omega
  · unfold Builtin.Str.tooLong
    rw [decide_eq_false]
    rw [sizeLine_eq]
    omega
  · have fin : ∀ (c : Str) (tk : Tok) (s' : Shared), (⟨((List.replicate n.toNat z.cps.toList).flatten).toArray⟩ : Str) = c → Inv X pins σ H s' → EP X pins σ Q (.str c tk) s' := fun c tk s' e I' => ⟨.str _, H, I', ⟨_, by rw [e]⟩, q⟩
    by_cases c1 : n < 1
    · rw [if_pos c1]
      have e0 : n.toNat = 0 := by omega
      refine ⟨by decide, fin _ _ _ ?_ (I.tok _)⟩
      rw [e0]
      rfl
    · rw [if_neg c1]
      by_cases c2 : (n == 1 || z.length == 0) = true
      · rw [if_pos c2]
        refine fin _ _ _ ?_ I
        simp only [Bool.or_eq_true, beq_iff_eq] at c2
        rcases c2 with c2 | c2
        · subst c2
          show (⟨((List.replicate 1 z.cps.toList).flatten).toArray⟩ : Str) = z
          simp
        · rw [hz c2]
          have : z = ⟨#[]⟩ := by
            obtain ⟨za⟩ := z
            have := hz c2
            simp at this
            rw [this]
          rw [this]
          simp
      · rw [if_neg c2]
        have e5 : (⟨((List.replicate n.toNat z.cps.toList).flatten).toArray⟩ : Str) = ⟨(List.replicate n.toNat z.cps).foldl (· ++ ·) #[]⟩ := by
          rw [fold]
          simp
        refine ⟨?_, fin _ _ _ e5 (I.tok _)⟩
        rw [← e5]
        show ((List.replicate n.toNat z.cps.toList).flatten).toArray.size ≤ sizeLine
        rw [List.size_toArray, List.length_flatten]
        simp
        rw [sizeLine_eq]
        have : n.toNat * z.length ≤ 1000000 := by rw [Nat.mul_comm]; exact h3
        have zz : z.cps.size = z.length := rfl
        rw [zz]
        omega
def rMulAny : R2 := fun x y H Q => rI CMul (fun i j => .int (i * j)) x y H Q ∨ (∃ z n, x = .str z ∧ y = .int n ∧ (-1000000 ≤ n ∧ n ≤ 1000000 ∧ z.length * n.toNat ≤ 1000000) ∧ Q (.str ⟨((List.replicate n.toNat z.cps.toList).flatten).toArray⟩) H)
theorem op_mulAny {X : Cx} : OpR X (binaryOp .Mult) rMulAny := op_mul.or op_mul_str
theorem s2_mul : S2 K G rMulAny fMul := fun w x y dx dy d S' o rx ry hh Q k => by
  unfold fMul at hh
  split at hh
  · split at hh
    · rename_i hl
      cases hh
      cases rx
      cases ry
      rename_i i j
      have hl2 : (-(2 ^ 64) < i ∧ i < 2 ^ 64) ∨ (-(2 ^ 64) < j ∧ j < 2 ^ 64) := of_decide_eq_true hl
      exact .inl ⟨_, _, rfl, rfl, hl2, Kd.now k o .int⟩
    · cases hh
  · split at hh
    · rename_i hl
      cases hh
      cases rx
      cases ry
      refine .inr ⟨_, _, rfl, rfl, by rw [str_len]; exact hl, ?_⟩
      exact Kd.now k o .str
    · cases hh
  · cases hh
theorem s2_sub : S2 K G (rI0 fun i j => .int (i - j)) fSub := fun w x y dx dy d S' o rx ry hh Q k => by
  unfold fSub at hh
  split at hh
  · cases hh
    cases rx
    cases ry
    exact ⟨_, _, rfl, rfl, Kd.now k o .int⟩
  · cases hh
theorem s2_div : S2 K G (rI CDiv fun i j => .int (i / j)) fDiv := fun w x y dx dy d S' o rx ry hh Q k => by
  unfold fDiv at hh
  split at hh
  · split at hh
    · rename_i hl
      cases hh
      cases rx
      cases ry
      exact ⟨_, _, rfl, rfl, hl, Kd.now k o .int⟩
    · cases hh
  · cases hh
theorem s2_mod : S2 K G (rI (fun _ j => 0 < j) fun i j => .int (i % j)) fMod := fun w x y dx dy d S' o rx ry hh Q k => by
  unfold fMod at hh
  split at hh
  · split at hh
    · rename_i hl
      cases hh
      cases rx
      cases ry
      exact ⟨_, _, rfl, rfl, hl, Kd.now k o .int⟩
    · cases hh
  · cases hh
theorem s2_cmp {p : Int → Int → Bool} : S2 K G (rI0 fun i j => .bl (p i j)) (fCmp p) := fun w x y dx dy d S' o rx ry hh Q k => by
  unfold fCmp at hh
  split at hh
  · cases hh
    cases rx
    cases ry
    exact ⟨_, _, rfl, rfl, Kd.now k o .bl⟩
  · cases hh
mutual
theorem toPy_dp {w : Wd} : ∀ {d : D} {v : V} {p : PyData}, RV K w v d → toPy d = some p → Dp K w.H v p
  | .non, _, _, r, h => by cases r; cases h; exact .non
  | .bl b, _, _, r, h => by cases r; cases h; exact .bl b
  | .int i, _, _, r, h => by cases r; cases h; exact .int i
  | .str c, _, _, r, h => by
    cases r
    rw [toPy] at h
    cases h
    exact .str _
  | .tup ds, _, p, r, h => by
    cases r with
    | tup h1 h2 h3 =>
      rw [toPy] at h
      cases e : toPys ds with
      | none => rw [e] at h; cases h
      | some ps =>
        rw [e] at h
        cases h
        exact .tup (SqT.of h1) (toPys_dp h3 e)
  | .lst ds, _, p, r, h => by
    cases r with
    | lst h1 h2 h3 =>
      rw [toPy] at h
      cases e : toPys ds with
      | none => rw [e] at h; cases h
      | some ps =>
        rw [e] at h
        cases h
        exact .lst (SqL.of h1) (toPys_dp h3 e)
  | .ref _, _, _, _, h => by rw [toPy] at h; cases h
  | .raw _, _, _, _, h => by rw [toPy] at h; cases h
  | .scr _, _, _, _, h => by rw [toPy] at h; cases h
  | .exn _ _ _ _, _, _, _, h => by rw [toPy] at h; cases h
  | .fact _ _ _ _, _, _, _, h => by rw [toPy] at h; cases h
theorem toPys_dp {w : Wd} : ∀ {ds : List D} {vs : List V} {ps : List PyData}, RVs K w vs ds → toPys ds = some ps → DpAll K w.H vs ps
  | [], _, _, r, h => by cases r; rw [toPys] at h; cases h; exact .nil
  | d :: ds, _, ps, r, h => by
    cases r with
    | cons r1 r2 =>
      rw [toPys] at h
      cases e1 : toPy d with
      | none => rw [e1] at h; cases h
      | some p =>
        cases e2 : toPys ds with
        | none => rw [e1, e2] at h; cases h
        | some qs =>
          rw [e1, e2] at h
          cases h
          exact .cons (toPy_dp r1 e1) (toPys_dp r2 e2)
end
theorem toPyS_dp {w : Wd} {d : D} {v : V} {p : PyData} (o : Ok K G w) (r : RV K w v d) (h : toPyS w.S d = some p) : Dp K w.H v p := by
  cases d with
  | ref l =>
    dsimp only [toPyS] at h
    cases e : w.S.get l with
    | none => rw [e] at h; cases h
    | some u =>
      rw [e] at h
      cases u with
      | lst ds =>
        cases e2 : toPys ds with
        | none =>
          dsimp only at h
          rw [e2] at h
          cases h
        | some ps =>
          dsimp only at h
          rw [e2] at h
          cases h
          obtain ⟨a, vs, rfl, h1, h2⟩ := lstOf_rv (ds := ds) o r (by dsimp only [lstOf]; rw [e])
          exact .lst (SqL.of h1) (toPys_dp h2 e2)
      | _ => cases h
  | _ => exact toPy_dp r h
def rEqAny (K : PySem.W.Frag) : R2 := fun x y H Q => rEq x y H Q ∨ rEqD K x y H Q
def rNeAny (K : PySem.W.Frag) : R2 := fun x y H Q => rNe x y H Q ∨ rNeD K x y H Q
theorem op_eqAny {X : Cx} (hu : X.A.units + 64 < cLine) : OpR X (compareOp .Eq) (rEqAny X.K) := op_eq.or (op_eqD hu)
theorem op_neAny {X : Cx} (hu : X.A.units + 64 < cLine) : OpR X (compareOp .NotEq) (rNeAny X.K) := op_ne.or (op_neD hu)
theorem eqD_rv {w : Wd} {x y : V} {dx dy : D} {c : Bool} (o : Ok K G w) (rx : RV K w x dx) (ry : RV K w y dy) (h : eqD w.S dx dy = some c) :
    (scal x y = true ∧ decide (x = y) = c) ∨ ∃ p q, Dp K w.H x p ∧ Dp K w.H y q ∧ SeqAt.shaped p = true ∧ SeqAt.shaped q = true ∧ PyData.eqv p q = c := by
  unfold eqD at h
  split at h
  · cases h; cases rx; cases ry
    exact .inl ⟨rfl, by simp⟩
  · cases h; cases rx; cases ry
    refine .inl ⟨rfl, ?_⟩
    simp [str_eq]
  · cases h; cases rx; cases ry
    exact .inl ⟨rfl, by simp⟩
  · cases h; cases rx; cases ry
    exact .inl ⟨rfl, by simp⟩
  · cases h; cases rx; cases ry
    exact .inl ⟨rfl, by simp⟩
  · cases h; cases rx; cases ry
    exact .inl ⟨rfl, by simp⟩
  · right
    cases e1 : toPyS w.S dx with
    | none => rw [e1] at h; cases h
    | some p =>
      cases e2 : toPyS w.S dy with
      | none => rw [e1, e2] at h; cases h
      | some q =>
        rw [e1, e2] at h
        dsimp only [eqPy] at h
        split at h
        · rename_i hs
          cases h
          exact ⟨p, q, toPyS_dp o rx e1, toPyS_dp o ry e2, hs.1, hs.2, rfl⟩
        · cases h
theorem s2_eq : S2 K G (rEqAny K) fEq := fun w x y dx dy d S' o rx ry hh Q k => by
  unfold fEq at hh
  cases e : eqD w.S dx dy with
  | none => rw [e] at hh; cases hh
  | some c =>
    rw [e] at hh
    cases hh
    rcases eqD_rv o rx ry e with ⟨h1, h2⟩ | ⟨p, q, h1, h2, h3, h4, h5⟩
    · refine .inl ⟨h1, ?_⟩
      rw [h2]
      exact Kd.now k o .bl
    · refine .inr ⟨p, q, h1, h2, h3, h4, ?_⟩
      rw [h5]
      exact Kd.now k o .bl
theorem s2_ne : S2 K G (rNeAny K) fNe := fun w x y dx dy d S' o rx ry hh Q k => by
  unfold fNe at hh
  cases e : eqD w.S dx dy with
  | none => rw [e] at hh; cases hh
  | some c =>
    rw [e] at hh
    cases hh
    rcases eqD_rv o rx ry e with ⟨h1, h2⟩ | ⟨p, q, h1, h2, h3, h4, h5⟩
    · refine .inl ⟨h1, ?_⟩
      rw [h2]
      exact Kd.now k o .bl
    · refine .inr ⟨p, q, h1, h2, h3, h4, ?_⟩
      rw [h5]
      exact Kd.now k o .bl
theorem s2_notInS : S2 K G (fun x y H Q => ∃ (c : Nat) (z : Str), x = .str ⟨#[c]⟩ ∧ y = .str z ∧ Q (.bl (!decide (c ∈ z.cps.toList))) H) fNotInS := fun w x y dx dy d S' o rx ry hh Q k => by
  unfold fNotInS at hh
  split at hh
  · cases hh; cases rx; cases ry
    refine ⟨_, _, rfl, rfl, ?_⟩
    have e : ∀ (c : Nat) (z : List Nat), decide (c ∈ (⟨z.toArray⟩ : Str).cps.toList) = decide (c ∈ z) := fun c z => by simp
    rw [e]
    exact Kd.now k o .bl
  · cases hh
theorem flatD_rv {w : Wd} {d : D} {v u : V} (r : RV K w v d) (h : flatD d = some u) : v = u ∧ flatV u = true := by
  cases d with
  | non => cases r; cases h; exact ⟨rfl, rfl⟩
  | int i => cases r; cases h; exact ⟨rfl, rfl⟩
  | str i => cases r; cases h; exact ⟨rfl, rfl⟩
  | bl i => cases r; cases h; exact ⟨rfl, rfl⟩
  | _ => cases h
theorem flatDs_rv {w : Wd} : ∀ {ds : List D} {vs us : List V}, RVs K w vs ds → flatDs ds = some us → vs = us ∧ us.all flatV = true
  | [], _, _, r, h => by cases r; cases h; exact ⟨rfl, rfl⟩
  | d :: ds, _, us, r, h => by
    cases r with
    | cons r1 r2 =>
      rw [flatDs] at h
      cases e1 : flatD d with
      | none => rw [e1] at h; cases h
      | some p =>
        cases e2 : flatDs ds with
        | none => rw [e1, e2] at h; cases h
        | some qs =>
          rw [e1, e2] at h
          cases h
          obtain ⟨h1, h2⟩ := flatD_rv r1 e1
          obtain ⟨h3, h4⟩ := flatDs_rv r2 e2
          exact ⟨by rw [h1, h3], by rw [List.all_cons, h2, h4]; rfl⟩
theorem s2_in {neg : Bool} : S2 K G (rIn K neg) (fIn neg) := fun w x y dx dy d S' o rx ry hh Q k => by
  obtain ⟨u, h1, h2⟩ := bnd hh
  obtain ⟨ds, h3, h4⟩ := bnd h2
  obtain ⟨us, h5, h6⟩ := bnd h4
  cases h6
  obtain ⟨q1, q2⟩ := flatD_rv rx h1
  obtain ⟨a, vs, q3, q4, q5⟩ := seqOf_rv o ry h3
  obtain ⟨q6, q7⟩ := flatDs_rv q5 h5
  subst q1 q3 q6
  exact ⟨a, vs, rfl, q4, q2, q7, Kd.now k o .bl⟩
theorem atI_rv {w : Wd} {vs : List V} {ds : List D} {i : Int} {d : D} (r : RVs K w vs ds) (h : atI ds i = some d) : ∃ v, atI vs i = some v ∧ RV K w v d := by
  unfold atI at h ⊢
  rw [r.length]
  obtain ⟨j, h1, h2⟩ := bnd h
  obtain ⟨v, h3, h4⟩ := r.get h2
  exact ⟨v, by rw [h1]; exact h3, h4⟩
theorem s2_ix : S2 K G (rIx K) fIx := fun w x y dx dy d S' o rx ry hh Q k => by
  unfold fIx at hh
  split at hh
  · rename_i i
    cases ry
    split at hh
    · split at hh
      · rename_i z hz
        cases rx
        cases e : atI z i with
        | none => rw [e] at hh; cases hh
        | some c =>
          rw [e] at hh
          cases hh
          refine .inr (.inr ⟨_, i, c, rfl, rfl, by rw [str_len]; exact hz, by simpa using e, ?_⟩)
          exact k _ w rfl (Fr.refl w) o .str
      · cases hh
    · obtain ⟨ds, h1, h2⟩ := bnd hh
      cases e : atI ds i with
      | none => rw [e] at h2; cases h2
      | some c =>
        rw [e] at h2
        cases h2
        obtain ⟨a, vs, q3, q4, q5⟩ := seqOf_rv o rx h1
        obtain ⟨v, q6, q7⟩ := atI_rv q5 e
        subst q3
        rcases q4 with q4 | q4
        · exact .inl ⟨a, vs, i, v, rfl, rfl, q4, q6, Kd.now k o q7⟩
        · exact .inr (.inl ⟨a, vs, i, v, rfl, rfl, q4, q6, Kd.now k o q7⟩)
  · cases hh
/-- lists put together; a list so many times -/
theorem s2f_cat : S2f K G rCat fCat := fun w x y dx dy d S' o rx ry hh Q k => by
  obtain ⟨xs, h1, h2⟩ := bnd hh
  obtain ⟨ys, h3, h4⟩ := bnd h2
  split at h4
  · rename_i hl
    cases h4
    obtain ⟨a, vs, rfl, q1, q2⟩ := lstOf_rv o rx h1
    obtain ⟨b, us, rfl, q3, q4⟩ := lstOf_rv o ry h3
    exact ⟨a, b, vs, us, rfl, rfl, q1, q3, by rw [q2.length, q4.length]; exact hl, fun p hp => Kf.new k o (q2.append q4) hp⟩
  · cases h4
end
end AH
set_option maxRecDepth 100000
set_option maxHeartbeats 2000000
namespace AH
open PySem L2 TL
abbrev EvO := Rho → Sto → Option (Option Int × Sto)
def oNone : EvO := fun _ S => some (none, S)
def oSome (a : Ev) : EvO := fun ρ S => (a ρ S).bind fun x => match x.1 with
  | .int i => some (some i, x.2)
  | _ => none
def cutL {α : Type} (xs : List α) (lo hi : Option Int) : List α := (xs.drop (HT.sIx xs.length 0 lo)).take (HT.sIx xs.length xs.length hi - HT.sIx xs.length 0 lo)
/-- slices of texts and tuples; of lists -/
def fSl (d : D) (lo hi : Option Int) (S : Sto) : Option (D × Sto) := match d with
  | .str z => if z.length ≤ sizeLine then some (.str (cutL z lo hi), S) else none
  | .tup ds => if HT.sIx ds.length 0 lo = 0 ∧ HT.sIx ds.length ds.length hi = ds.length then none else some (.tup (cutL ds lo hi), S)
  | _ => none
def fSlL (d : D) (lo hi : Option Int) (S : Sto) : Option (List D × Sto) := (lstOf S d).map fun ds => (cutL ds lo hi, S)
def e3 {α : Type} (f : D → Option Int → Option Int → Sto → Option (α × Sto)) (a : Ev) (b c : EvO) : Rho → Sto → Option (α × Sto) := fun ρ S => (a ρ S).bind fun x => (b ρ x.2).bind fun y => (c ρ y.2).bind fun z => f x.1 y.1 z.1 z.2
def fLen (ds : List D) (S : Sto) : Option (D × Sto) := match ds with
  | [.str z] => if z.length ≤ sizeLine then some (.int z.length, S) else none
  | [.scr ns] => some (.int ns.length, S)
  | [d] => (seqOf S d).map fun ds => (.int ds.length, S)
  | _ => none
def fStr (ds : List D) (S : Sto) : Option (D × Sto) := match ds with
  | [.int n] => if 0 ≤ n ∧ n < 10 ^ 30 then some (.str (numL n.toNat), S) else none
  | [.str z] => some (.str z, S)
  | _ => none
def fInt (ds : List D) (S : Sto) : Option (D × Sto) := match ds with
  | [.int n] => some (.int n, S)
  | [.bl b] => some (.int (if b then 1 else 0), S)
  | _ => none
def decV (l : List Nat) : Nat := l.foldl (fun acc c => acc * 10 + (c - 48)) 0
def allDig (l : List Nat) : Bool := l.all fun c => decide (48 ≤ c ∧ c ≤ 57)
def fIntS (ds : List D) (S : Sto) : Option (D × Sto) := match ds with
  | [.str z] => if allDig z = true ∧ z ≠ [] ∧ z.length ≤ 600 then some (.int (decV z), S) else none
  | _ => none
def fListOf (ds : List D) (S : Sto) : Option (List D × Sto) := match ds with
  | [.scr ns] => some (ns.map D.int, S)
  | [d] => (seqOf S d).map fun ds => (ds, S)
  | _ => none
def fTupOf (ds : List D) (S : Sto) : Option (D × Sto) := match ds with
  | [.tup ds] => some (.tup ds, S)
  | [d] => (lstOf S d).map fun ds => (.tup ds, S)
  | _ => none
def fMax2 (ds : List D) (S : Sto) : Option (D × Sto) := match ds with
  | [.int i, .int j] => some (.int (if j > i then j else i), S)
  | _ => none
def fMin2 (ds : List D) (S : Sto) : Option (D × Sto) := match ds with
  | [.int i, .int j] => some (.int (if j < i then j else i), S)
  | _ => none
/-- isinstance(x, a built-in type) -/
def tyName (S : Sto) : D → Option String
  | .non => some "NoneType"
  | .bl _ => some "bool"
  | .int _ => some "int"
  | .str _ => some "str"
  | .tup _ => some "tuple"
  | .lst _ => some "list"
  | .ref l => match S.get l with
    | some (.lst _) => some "list"
    | some (.dic _ _) => some "dict"
    | some (.dit false _) => some "dict"
    | _ => none
  | _ => none
def isT (T : String) (n : String) : Bool := n == T || (n == "bool" && T == "int")
def okT (T : String) : Bool := T == "int" || T == "bool" || T == "str" || T == "list" || T == "tuple"
def fIsT (ds : List D) (S : Sto) : Option (D × Sto) := match ds with
  | [d, .raw (.ty T)] => if okT T = true then (tyName S d).map fun n => (.bl (isT T n), S) else none
  | _ => none
section
variable {K : PySem.W.Frag} {G : Gx}
def SOo (K : PySem.W.Frag) (G : Gx) (to : TO) (ev : EvO) : Prop := ∀ w σ ρ b S', Ok K G w → RS K w σ ρ → ev ρ w.S = some (b, S') → ∀ Q : Option Int → Hp → Prop, (∀ w', w'.S = S' → Fr w w' → Ok K G w' → Q b w'.H) → to σ w.H Q
theorem so_none : SOo K G tNoPart oNone := fun w σ ρ b S' o rs h Q k => by
  cases h
  exact k w rfl (Fr.refl w) o
theorem so_some {te : TE} {ea : Ev} (h : SE K G te ea) : SOo K G (tPart te) (oSome ea) := fun w σ ρ b S' o rs hh Q k => by
  obtain ⟨⟨d, S1⟩, h1, h2⟩ := bnd hh
  cases d with
  | int i =>
    cases h2
    exact h w σ ρ _ _ o rs h1 _ fun v w1 e1 f1 o1 r1 => ⟨i, by cases r1; rfl, k w1 e1 f1 o1⟩
  | _ => cases h2
def S3 (K : PySem.W.Frag) (G : Gx) (r : V → Option Int → Option Int → Hp → VK → Prop) (f : D → Option Int → Option Int → Sto → Option (D × Sto)) : Prop := ∀ w x dx lo hi d S', Ok K G w → RV K w x dx → f dx lo hi w.S = some (d, S') → ∀ Q, Kd K G w d S' Q → r x lo hi w.H Q
def S3f (K : PySem.W.Frag) (G : Gx) (r : V → Option Int → Option Int → Hp → VK → Prop) (f : D → Option Int → Option Int → Sto → Option (List D × Sto)) : Prop := ∀ w x dx lo hi d S', Ok K G w → RV K w x dx → f dx lo hi w.S = some (d, S') → ∀ Q, Kf K G w d S' Q → r x lo hi w.H Q
theorem se_3 {α : Type} {te : TE} {ea : Ev} {tl th : TO} {el eh : EvO} {f : D → Option Int → Option Int → Sto → Option (α × Sto)} (ha : SE K G te ea) (hl : SOo K G tl el) (hh : SOo K G th eh) {w : Wd} {σ : St} {ρ : Rho} {z : α} {S' : Sto} (o : Ok K G w) (r : RS K w σ ρ)
    (h : e3 f ea el eh ρ w.S = some (z, S')) {R : V → Option Int → Option Int → Hp → Prop} (k : ∀ x dx lo hi w', Fr w w' → Ok K G w' → RV K w' x dx → f dx lo hi w'.S = some (z, S') → R x lo hi w'.H) :
    te σ w.H fun x H1 => tl σ H1 fun l H2 => th σ H2 fun u H3 => R x l u H3 := by
  obtain ⟨⟨dx, S1⟩, h1, h2⟩ := bnd h
  obtain ⟨⟨lo, S2⟩, h3, h4⟩ := bnd h2
  obtain ⟨⟨hi, S3⟩, h5, h6⟩ := bnd h4
  refine ha w σ ρ dx S1 o r h1 _ fun x w1 e1 f1 o1 r1 => ?_
  subst e1
  refine hl w1 σ ρ lo S2 o1 (r.fr o f1) h3 _ fun w2 e2 f2 o2 => ?_
  subst e2
  refine hh w2 σ ρ hi S3 o2 (r.fr o (f1.trans f2)) h5 _ fun w3 e3 f3 o3 => ?_
  subst e3
  exact k x dx lo hi w3 ((f1.trans f2).trans f3) o3 (r1.mono (f2.trans f3).mv) h6
theorem se_sl {te : TE} {ea : Ev} {tl th : TO} {el eh : EvO} {r : V → Option Int → Option Int → Hp → VK → Prop} {f : D → Option Int → Option Int → Sto → Option (D × Sto)} (hr : S3 K G r f) (ha : SE K G te ea) (hl : SOo K G tl el) (hh : SOo K G th eh) :
    SE K G (tSl r te tl th) (e3 f ea el eh) := fun w σ ρ d S' o rs h Q k => se_3 ha hl hh o rs h fun x dx lo hi w' f' o' rx q => hr w' x dx lo hi d S' o' rx q Q (Kd.from k f')
theorem sf_sl {te : TE} {ea : Ev} {tl th : TO} {el eh : EvO} {r : V → Option Int → Option Int → Hp → VK → Prop} {f : D → Option Int → Option Int → Sto → Option (List D × Sto)} (hr : S3f K G r f) (ha : SE K G te ea) (hl : SOo K G tl el) (hh : SOo K G th eh) :
    SF K G (tSl r te tl th) (e3 f ea el eh) := fun w σ ρ d S' o rs h Q k => se_3 ha hl hh o rs h fun x dx lo hi w' f' o' rx q => hr w' x dx lo hi d S' o' rx q Q (Kf.from k f' o')
def rSlAny (K : PySem.W.Frag) : V → Option Int → Option Int → Hp → VK → Prop := fun x lo hi H Q => rSlS x lo hi H Q ∨ rSlT K x lo hi H Q
theorem sl_any {X : Cx} : SlR X (rSlAny X.K) := sl_str.or sl_tup
theorem RVs.cut {w : Wd} {vs : List V} {ds : List D} (r : RVs K w vs ds) (lo hi : Option Int) : RVs K w (cutV vs lo hi) (cutL ds lo hi) := by
  unfold cutV cutL
  rw [r.length]
  exact (r.drop _).take _
theorem s3_sl : S3 K G (rSlAny K) fSl := fun w x dx lo hi d S' o rx hh Q k => by
  unfold fSl at hh
  split at hh
  · split at hh
    · rename_i z hz
      cases hh
      cases rx
      refine .inl ⟨_, rfl, by rw [str_len]; exact hz, ?_⟩
      have e : cutS ⟨z.toArray⟩ lo hi = ⟨(cutL z lo hi).toArray⟩ := by
        unfold cutS cutL
        rw [str_len]
      rw [e]
      exact Kd.now k o .str
    · cases hh
  · split at hh
    · cases hh
    · rename_i ds hn
      cases hh
      cases rx with
      | tup h1 h2 h3 =>
        refine .inr ⟨_, _, rfl, SqT.of h1, by rw [h3.length]; exact hn, fun p hp => ?_⟩
        exact Kd.tup k o (h3.cut lo hi) hp
  · cases hh
theorem s3f_sl : S3f K G (rSlL K) fSlL := fun w x dx lo hi d S' o rx hh Q k => by
  unfold fSlL at hh
  cases e : lstOf w.S dx with
  | none => rw [e] at hh; cases hh
  | some ds =>
    rw [e] at hh
    cases hh
    obtain ⟨a, vs, rfl, q1, q2⟩ := lstOf_rv o rx e
    exact ⟨a, vs, rfl, SqL.of q1, fun p hp => Kf.new k o (q2.cut lo hi) hp⟩
theorem RVs.one_of {w : Wd} {xs : List V} {d : D} (r : RVs K w xs [d]) : ∃ v, xs = [v] ∧ RV K w v d := by
  cases r with
  | cons r1 r2 =>
    cases r2
    exact ⟨_, rfl, r1⟩
theorem RVs.two_of {w : Wd} {xs : List V} {d e : D} (r : RVs K w xs [d, e]) : ∃ v u, xs = [v, u] ∧ RV K w v d ∧ RV K w u e := by
  cases r with
  | cons r1 r2 =>
    obtain ⟨u, rfl, r3⟩ := r2.one_of
    exact ⟨_, u, rfl, r1, r3⟩
def rLenAny (K : PySem.W.Frag) : List V → Hp → VK → Prop := fun xs H Q => ∃ x n, xs = [x] ∧ LenV K x H n ∧ Q (.int n) H
theorem scr_sql {w : Wd} {v : V} {ns : List Int} (r : RV K w v (.scr ns)) : ∃ a, v = .ref a ∧ SqL K w.H a (ns.map V.int) := by
  cases r with
  | scr h =>
    refine ⟨_, rfl, ?_⟩
    rcases h with ⟨o, h, _⟩ | h
    · exact .inl (.inr ⟨o, h⟩)
    · exact .inr h
  | scl h k => exact ⟨_, rfl, .inl (.inl h)⟩
theorem sn_len : SN K G (rLenAny K) fLen := fun w xs ds d S' o r hh Q k => by
  unfold fLen at hh
  split at hh
  · split at hh
    · rename_i z hz
      cases hh
      obtain ⟨v, rfl, r1⟩ := r.one_of
      cases r1
      refine ⟨_, z.length, rfl, (show (⟨z.toArray⟩ : Str).length ≤ sizeLine ∧ z.length = (⟨z.toArray⟩ : Str).length from ⟨by rw [str_len]; exact hz, (str_len z).symm⟩), Kd.now k o .int⟩
    · cases hh
  · rename_i ns
    cases hh
    obtain ⟨v, rfl, r1⟩ := r.one_of
    obtain ⟨a, rfl, h⟩ := scr_sql r1
    exact ⟨_, ns.length, rfl, .inl ⟨_, h, by simp⟩, Kd.now k o .int⟩
  · rename_i d' _ _
    obtain ⟨v, rfl, r1⟩ := r.one_of
    cases e : seqOf w.S d' with
    | none => rw [e] at hh; cases hh
    | some ds' =>
      rw [e] at hh
      cases hh
      obtain ⟨a, vs, rfl, q1, q2⟩ := seqOf_rv o r1 e
      refine ⟨_, ds'.length, rfl, ?_, Kd.now k o .int⟩
      rcases q1 with q1 | q1
      · exact .inl ⟨_, q1, q2.length.symm⟩
      · exact .inr ⟨_, q1, q2.length.symm⟩
  · cases hh
theorem int_nat {n : Int} (h : 0 ≤ n) : ∃ m : Nat, n = (m : Int) := ⟨n.toNat, by omega⟩
theorem str_num (m : Nat) : (Str.ofString (toString ((m : Nat) : Int))) = ⟨(numL m).toArray⟩ := by
  have h := tl_num m
  have e : (Str.ofString (toString ((m : Nat) : Int))).cps.toList = numL m := h
  rw [← e]
def rStrAny : List V → Hp → VK → Prop := fun xs H Q => (∃ i, xs = [.int i] ∧ i.natAbs.log2 < 1920 ∧ Q (.str (toString i)) H) ∨ ∃ a, xs = [.str a] ∧ Q (.str a) H
theorem call_strAny {X : Cx} : CallR X (.type "str") rStrAny := call_str_int.or SkE.call_str_str
theorem sn_str : SN K G rStrAny fStr := fun w xs ds d S' o r hh Q k => by
  unfold fStr at hh
  split at hh
  · split at hh
    · rename_i n hn
      cases hh
      obtain ⟨v, rfl, r1⟩ := r.one_of
      cases r1
      obtain ⟨m, rfl⟩ := int_nat hn.1
      refine .inl ⟨_, rfl, ?_, ?_⟩
      · show m.log2 < 1920
        by_cases h0 : m = 0
        · subst h0
          decide
        · rw [Nat.log2_lt h0]
          have h1 : (m : Int) < 10 ^ 30 := hn.2
          have h2 : m < 10 ^ 30 := by
            have e : ((10 : Int) ^ 30) = ((10 ^ 30 : Nat) : Int) := by norm_cast
            rw [e] at h1
            exact Int.ofNat_lt.mp h1
          exact Nat.lt_of_lt_of_le h2 (by decide +kernel)
      · have e := str_num m
        show Q (.str (Str.ofString (toString ((m : Nat) : Int)))) w.H
        rw [e]
        exact Kd.now k o .str
    · cases hh
  · cases hh
    obtain ⟨v, rfl, r1⟩ := r.one_of
    cases r1
    exact .inr ⟨_, rfl, Kd.now k o .str⟩
  · cases hh
theorem sn_int : SN K G (fun xs H Q => (∃ i, xs = [.int i] ∧ Q (.int i) H) ∨ ∃ k, xs = [.bl k] ∧ Q (.int (if k then 1 else 0)) H) fInt := fun w xs ds d S' o r hh Q k => by
  unfold fInt at hh
  split at hh
  · cases hh
    obtain ⟨v, rfl, r1⟩ := r.one_of
    cases r1
    exact .inl ⟨_, rfl, Kd.now k o .int⟩
  · cases hh
    obtain ⟨v, rfl, r1⟩ := r.one_of
    cases r1
    exact .inr ⟨_, rfl, Kd.now k o .int⟩
  · cases hh
theorem sn_intS : SN K G (fun xs H Q => ∃ a n, xs = [.str a] ∧ PySem.intText? a = some n ∧ a.length ≤ 640 ∧ Q (.int n) H) fIntS := fun w xs ds d S' o r hh Q k => by
  unfold fIntS at hh
  split at hh
  · split at hh
    · rename_i z hz
      cases hh
      obtain ⟨v, rfl, r1⟩ := r.one_of
      cases r1
      obtain ⟨h1, h2, h3⟩ := hz
      have hd : NumText.AllDigits (⟨z.toArray⟩ : Str).cps.toList := fun c hc => by
        have hc' : c ∈ z := by simpa using hc
        exact of_decide_eq_true (List.all_eq_true.mp h1 c hc')
      have e := PySem.intText_digits hd (by simpa using h2) (by rw [str_len]; omega)
      have e2 : (⟨z.toArray⟩ : Str).cps.toList = z := by simp
      rw [e2] at e
      exact ⟨_, _, rfl, e, by rw [str_len]; omega, Kd.now k o .int⟩
    · cases hh
  · cases hh
def rListOfR (K : PySem.W.Frag) : List V → Hp → VK → Prop := fun xs H Q => ∃ p ys, xs = [.ref p] ∧ (SqL K H p ys ∨ SqT K H p ys) ∧ ∀ l, H l = none → Q (.ref l) (upd H l (.lst ys))
theorem snf_listOf : SNf K G (rListOfR K) fListOf := fun w xs ds d S' o r hh Q k => by
  unfold fListOf at hh
  split at hh
  · rename_i ns
    cases hh
    obtain ⟨v, rfl, r1⟩ := r.one_of
    obtain ⟨a, rfl, h⟩ := scr_sql r1
    exact ⟨_, _, rfl, .inl h, fun l hl => Kf.new k o (RVs.of_ints ns) hl⟩
  · rename_i d' _
    obtain ⟨v, rfl, r1⟩ := r.one_of
    cases e : seqOf w.S d' with
    | none => rw [e] at hh; cases hh
    | some ds' =>
      rw [e] at hh
      cases hh
      obtain ⟨a, vs, rfl, q1, q2⟩ := seqOf_rv o r1 e
      exact ⟨_, _, rfl, q1, fun l hl => Kf.new k o q2 hl⟩
  · cases hh
theorem ty_kit {T n : String} (hT : okT T = true) (hn : n = "NoneType" ∨ n = "bool" ∨ n = "int" ∨ n = "str" ∨ n = "tuple" ∨ n = "list" ∨ n = "dict") : PySem.W.kitOne K (.type n) (.type T) = some (isT T n) := by
  apply kit_ty
  have hT' : T = "int" ∨ T = "bool" ∨ T = "str" ∨ T = "list" ∨ T = "tuple" := by
    unfold okT at hT
    simp only [Bool.or_eq_true, beq_iff_eq] at hT
    rcases hT with (((h | h) | h) | h) | h <;> simp [h]
  rcases hT' with rfl | rfl | rfl | rfl | rfl <;> rcases hn with rfl | rfl | rfl | rfl | rfl | rfl | rfl <;> decide +kernel
theorem tyName_rv {w : Wd} {v : V} {d : D} {n : String} (o : Ok K G w) (r : RV K w v d) (h : tyName w.S d = some n) : TyX K w.H v (.type n) ∧ (n = "NoneType" ∨ n = "bool" ∨ n = "int" ∨ n = "str" ∨ n = "tuple" ∨ n = "list" ∨ n = "dict") := by
  cases d with
  | non => cases r; cases h; exact ⟨.base .non, by simp⟩
  | bl b => cases r; cases h; exact ⟨.base (.bl b), by simp⟩
  | int b => cases r; cases h; exact ⟨.base (.int b), by simp⟩
  | str b => cases r; cases h; exact ⟨.base (.str _), by simp⟩
  | tup b => cases r with
    | tup h1 h2 h3 => cases h; exact ⟨.base (.tup h1), by simp⟩
  | lst b => cases r with
    | lst h1 h2 h3 => cases h; exact ⟨.base (.lst h1), by simp⟩
  | ref l =>
    dsimp only [tyName] at h
    cases e : w.S.get l with
    | none => rw [e] at h; cases h
    | some u =>
      rw [e] at h
      obtain ⟨a, h1, h2⟩ := o.obj l u e
      cases r with
      | ref h3 =>
        rw [h1] at h3
        cases h3
        cases u with
        | lst ds =>
          cases h
          obtain ⟨vs, q, _⟩ := h2
          exact ⟨.base (.lst q), by simp⟩
        | dic lk kvs =>
          cases h
          refine ⟨?_, by simp⟩
          cases lk with
          | false => obtain ⟨vs, q, _⟩ := h2; exact .base (.dK q)
          | true => obtain ⟨vs, ⟨od, q⟩, _⟩ := h2; exact .fDict q
        | dit lk kvs =>
          cases lk with
          | false =>
            cases h
            refine ⟨?_, by simp⟩
            obtain ⟨vs, q, _⟩ := h2
            exact .base (.dT q)
          | true => cases h
        | _ => cases h
  | _ => cases h
theorem sn_isT : SN K G (rIsi K) fIsT := fun w xs ds d S' o r hh Q k => by
  unfold fIsT at hh
  split at hh
  · split at hh
    · rename_i d' T hT
      obtain ⟨v, u, rfl, r1, r2⟩ := r.two_of
      cases e : tyName w.S d' with
      | none => rw [e] at hh; cases hh
      | some n =>
        rw [e] at hh
        cases hh
        obtain ⟨q1, q2⟩ := tyName_rv o r1 e
        cases r2
        exact ⟨v, _, _, _, _, rfl, .ty T, q1, ty_kit hT q2, Kd.now k o .bl⟩
    · cases hh
  · cases hh
end
end AH
set_option maxRecDepth 100000
set_option maxHeartbeats 2000000
namespace AH
open PySem L2 TL
def splitC (c : Nat) : List Nat → List (List Nat)
  | [] => [[]]
  | x :: xs => if x = c then [] :: splitC c xs else match splitC c xs with
    | [] => [[x]]
    | p :: ps => (x :: p) :: ps
theorem splitC_ne (c : Nat) : ∀ l, splitC c l ≠ []
  | [] => by simp [splitC]
  | x :: xs => by
    unfold splitC
    split
    · simp
    · split <;> simp
theorem pre_hit (c : Nat) (r : List Nat) : pre [c] (c :: r) = true := by simp [pre]
theorem spl_split (c : Nat) : ∀ (l acc : List Nat), spl [c] 0 acc l = match splitC c l with
    | [] => [acc]
    | p :: ps => (acc ++ p) :: ps
  | [], acc => by
    rw [spl_nil]
    simp [splitC]
  | x :: xs, acc => by
    by_cases h : x = c
    · subst h
      rw [spl_hit (pre_hit x xs)]
      have e := spl_split x xs []
      show acc :: spl [x] 0 [] xs = _
      rw [e]
      have e2 : splitC x (x :: xs) = [] :: splitC x xs := by rw [splitC, if_pos rfl]
      rw [e2]
      cases q : splitC x xs with
      | nil => exact absurd q (splitC_ne x xs)
      | cons p ps => simp
    · rw [spl_miss (pre_of_head [] xs h), spl_split c xs]
      conv => rhs; unfold splitC
      rw [if_neg h]
      cases q : splitC c xs with
      | nil => exact absurd q (splitC_ne c xs)
      | cons p ps => simp
theorem split_is {z : List Nat} {c : Nat} (h : c < 256) : Txt.split ⟨z.toArray⟩ ⟨#[c]⟩ = (splitC c z).map fun p => (⟨p.toArray⟩ : Str) := by
  apply map_tl_inj
  rw [split_spl _ _ (by simp [tl]) (kind_ok (by simp; exact h))]
  show spl [c] 0 [] z = _
  rw [spl_split]
  cases q : splitC c z with
  | nil => exact absurd q (splitC_ne c z)
  | cons p ps =>
    rw [List.map_map]
    simp [Function.comp_def, tl]
def fSplit (a : D) (bs : List D) (S : Sto) : Option (List D × Sto) := match a, bs with
  | .str z, [.str [c]] => if c < 256 ∧ z.length + 2 ≤ sizeLine then some ((splitC c z).map D.str, S) else none
  | _, _ => none
def strsOf : List D → Option (List (List Nat))
  | [] => some []
  | .str z :: ds => (strsOf ds).map (z :: ·)
  | _ => none
def joinD (s : List Nat) : List (List Nat) → List Nat
  | [] => []
  | [p] => p
  | p :: q :: r => p ++ (s ++ joinD s (q :: r))
def fJoin (a : D) (bs : List D) (S : Sto) : Option (D × Sto) := match a, bs with
  | .str s, [b] => (seqOf S b).bind fun ds => (strsOf ds).bind fun zs => if (zs.map (·.length)).sum + zs.length * s.length ≤ 16777216 then some (.str (joinD s zs), S) else none
  | _, _ => none
def fIndexS (a : D) (bs : List D) (S : Sto) : Option (D × Sto) := match a, bs with
  | .str z, [.str [c]] => if c ∈ z then some (.int (z.idxOf c), S) else none
  | _, _ => none
section
variable {K : PySem.W.Frag} {G : Gx}
def SM (K : PySem.W.Frag) (G : Gx) (r : V → List V → Hp → VK → Prop) (f : D → List D → Sto → Option (D × Sto)) : Prop := ∀ w x dx xs ds d S', Ok K G w → RV K w x dx → RVs K w xs ds → f dx ds w.S = some (d, S') → ∀ Q, Kd K G w d S' Q → r x xs w.H Q
def SMf (K : PySem.W.Frag) (G : Gx) (r : V → List V → Hp → VK → Prop) (f : D → List D → Sto → Option (List D × Sto)) : Prop := ∀ w x dx xs ds d S', Ok K G w → RV K w x dx → RVs K w xs ds → f dx ds w.S = some (d, S') → ∀ Q, Kf K G w d S' Q → r x xs w.H Q
theorem se_m1 {α : Type} {to te : TE} {eo ea : Ev} {f : D → List D → Sto → Option (α × Sto)} (ho : SE K G to eo) (ha : SE K G te ea) {w : Wd} {σ : St} {ρ : Rho} {z : α} {S' : Sto} (o : Ok K G w) (r : RS K w σ ρ)
    (h : (fun ρ S => (eo ρ S).bind fun x => match x.1 with | .str c => (ea ρ x.2).bind fun y => f (.str c) [y.1] y.2 | _ => none : Rho → Sto → Option (α × Sto)) ρ w.S = some (z, S')) {R : V → V → Hp → Prop}
    (k : ∀ x y dx dy w', Fr w w' → Ok K G w' → RV K w' x dx → RV K w' y dy → f dx [dy] w'.S = some (z, S') → R x y w'.H) : to σ w.H fun x H1 => (∃ a, x = .str a) ∧ te σ H1 fun y H2 => R x y H2 := by
  obtain ⟨⟨dx, S1⟩, h1, h2⟩ := bnd h
  refine ho w σ ρ dx S1 o r h1 _ fun x w1 e1 f1 o1 r1 => ?_
  subst e1
  cases dx with
  | str c =>
    obtain ⟨⟨dy, S2⟩, h3, h4⟩ := bnd h2
    refine ⟨⟨⟨c.toArray⟩, by cases r1; rfl⟩, ha w1 σ ρ dy S2 o1 (r.fr o f1) h3 _ fun y w2 e2 f2 o2 r2 => ?_⟩
    subst e2
    exact k x y _ dy w2 (f1.trans f2) o2 (r1.mono f2.mv) r2 h4
  | _ => cases h2
def eM1 {α : Type} (f : D → List D → Sto → Option (α × Sto)) (eo ea : Ev) : Rho → Sto → Option (α × Sto) := fun ρ S => (eo ρ S).bind fun x => match x.1 with
  | .str c => (ea ρ x.2).bind fun y => f (.str c) [y.1] y.2
  | _ => none
theorem se_tm1 {r : V → List V → Hp → VK → Prop} {to te : TE} {eo ea : Ev} {f : D → List D → Sto → Option (D × Sto)} (hr : SM K G r f) (ho : SE K G to eo) (ha : SE K G te ea) : SE K G (tM1 r to te) (eM1 f eo ea) := fun w σ ρ d S' o rs h Q k =>
  se_m1 ho ha o rs h fun x y dx dy w' f' o' rx ry q => hr w' x dx [y] [dy] d S' o' rx (.one ry) q Q (Kd.from k f')
theorem sf_tm1 {r : V → List V → Hp → VK → Prop} {to te : TE} {eo ea : Ev} {f : D → List D → Sto → Option (List D × Sto)} (hr : SMf K G r f) (ho : SE K G to eo) (ha : SE K G te ea) : SF K G (tM1 r to te) (eM1 f eo ea) := fun w σ ρ d S' o rs h Q k =>
  se_m1 ho ha o rs h fun x y dx dy w' f' o' rx ry q => hr w' x dx [y] [dy] d S' o' rx (.one ry) q Q (Kf.from k f' o')
theorem smf_split : SMf K G (fun x xs H Q => ∃ a b, x = .str a ∧ xs = [.str b] ∧ (b.length == 0) = false ∧ a.length + 2 ≤ sizeLine ∧ rNewStrs (Txt.split a b) H Q) fSplit := fun w x dx xs ds d S' o rx r hh Q k => by
  unfold fSplit at hh
  split at hh
  · split at hh
    · rename_i z c hz
      cases hh
      cases rx
      obtain ⟨v, rfl, r1⟩ := r.one_of
      cases r1
      refine ⟨_, _, rfl, rfl, by rfl, by rw [str_len]; exact hz.2, fun p hp => ?_⟩
      have e : Txt.split ⟨z.toArray⟩ ⟨[c].toArray⟩ = (splitC c z).map fun p => (⟨p.toArray⟩ : Str) := split_is hz.1
      rw [e]
      exact Kf.new k o (RVs.of_strs _) hp
    · cases hh
  · cases hh
theorem strsOf_rv {w : Wd} : ∀ {ds : List D} {vs : List V} {zs : List (List Nat)}, RVs K w vs ds → strsOf ds = some zs → vs = (zs.map fun z => (⟨z.toArray⟩ : Str)).map V.str
  | [], _, _, r, h => by cases r; cases h; rfl
  | d :: ds, _, zs, r, h => by
    cases r with
    | cons r1 r2 =>
      cases d with
      | str z =>
        rw [strsOf] at h
        cases e : strsOf ds with
        | none => rw [e] at h; cases h
        | some ys =>
          rw [e] at h
          cases h
          cases r1
          rw [strsOf_rv r2 e]
          rfl
      | _ => rw [strsOf] at h <;> first | cases h | (intros; intro z; cases z)
theorem joinD_eq (s : List Nat) : ∀ zs, joinD s zs = joinL s zs
  | [] => rfl
  | [_] => rfl
  | p :: q :: r => by
    show p ++ (s ++ joinD s (q :: r)) = p ++ (s ++ joinL s (q :: r))
    rw [joinD_eq s (q :: r)]
theorem join_is (s : List Nat) (zs : List (List Nat)) : Txt.join ⟨s.toArray⟩ (zs.map fun z => (⟨z.toArray⟩ : Str)) = ⟨(joinD s zs).toArray⟩ := by
  apply ext_tl
  rw [join_eq, tl_join, joinD_eq]
  simp [tl, List.map_map, Function.comp_def]
theorem sm_join : SM K G (fun x xs H Q => ∃ a p, ∃ ys : List Str, x = .str a ∧ xs = [.ref p] ∧ (SqL K H p (ys.map V.str) ∨ SqT K H p (ys.map V.str)) ∧ (ys.map (·.length)).sum + ys.length * a.length ≤ 16777216 ∧ Q (.str (Txt.join a ys)) H) fJoin := fun w x dx xs ds d S' o rx r hh Q k => by
  unfold fJoin at hh
  split at hh
  · rename_i s b
    obtain ⟨es, h1, h2⟩ := bnd hh
    obtain ⟨zs, h3, h4⟩ := bnd h2
    split at h4
    · rename_i hz
      cases h4
      cases rx
      obtain ⟨v, rfl, r1⟩ := r.one_of
      obtain ⟨a, vs, rfl, q1, q2⟩ := seqOf_rv o r1 h1
      have e := strsOf_rv q2 h3
      subst e
      refine ⟨_, a, _, rfl, rfl, q1, ?_, ?_⟩
      · rw [List.map_map, List.length_map, str_len]
        have e2 : ((fun x : Str => x.length) ∘ fun z : List Nat => (⟨z.toArray⟩ : Str)) = fun z : List Nat => z.length := by
          funext z
          exact str_len z
        rw [e2]
        exact hz
      · rw [join_is]
        exact Kd.now k o .str
    · cases h4
  · cases hh
theorem idx_is {z : List Nat} {c : Nat} (h : c ∈ z) : ∃ rest, Builtin.Str.occurrences ⟨z.toArray⟩ ⟨#[c]⟩ 0 (⟨z.toArray⟩ : Str).length 1 = z.idxOf c :: rest := by
  rcases StrLaws.occ_head ⟨z.toArray⟩ ⟨#[c]⟩ 1 (Nat.le_refl 1) with ⟨h0, hn⟩ | ⟨i, r, h0, hi, hn⟩
  · exfalso
    obtain ⟨j, hj⟩ := List.getElem?_of_mem h
    exact hn j ((StrLaws.subAt_one ⟨z.toArray⟩ c j).mpr hj)
  · refine ⟨r, ?_⟩
    rw [h0]
    congr 1
    have hi' : z[i]? = some c := (StrLaws.subAt_one ⟨z.toArray⟩ c i).mp hi
    have hlt : z.idxOf c < z.length := List.idxOf_lt_length_of_mem h
    have hg : z[z.idxOf c]? = some c := by
      rw [List.getElem?_eq_getElem hlt]
      congr 1
      exact List.getElem_idxOf hlt
    rcases Nat.lt_trichotomy i (z.idxOf c) with q | q | q
    · exfalso
      obtain ⟨hl, he⟩ := List.getElem?_eq_some_iff.mp hi'
      have := List.not_of_lt_findIdx (p := fun x => x == c) (xs := z) (i := i) (by simpa [List.idxOf] using q)
      simp [he] at this
    · exact q
    · exact absurd ((StrLaws.subAt_one ⟨z.toArray⟩ c (z.idxOf c)).mpr hg) (hn _ q)
theorem sm_index : SM K G (fun x xs H Q => ∃ a b i rest, x = .str a ∧ xs = [.str b] ∧ Builtin.Str.occurrences a b 0 a.length 1 = i :: rest ∧ Q (.int (i : Nat)) H) fIndexS := fun w x dx xs ds d S' o rx r hh Q k => by
  unfold fIndexS at hh
  split at hh
  · split at hh
    · rename_i z c hc
      cases hh
      cases rx
      obtain ⟨v, rfl, r1⟩ := r.one_of
      cases r1
      obtain ⟨rest, e⟩ := idx_is hc
      exact ⟨_, _, _, rest, rfl, rfl, e, Kd.now k o .int⟩
    · cases hh
  · cases hh
end
end AH
set_option maxRecDepth 100000
set_option maxHeartbeats 2000000
namespace AH
open PySem L2 TL
inductive Fl where
  | nx | bk | ct | rt (d : D) | rf (ds : List D)
abbrev EvS := Rho → Sto → Option (Fl × Rho × Sto)
def accAt (σ : St) (ρ : Rho) (a : Addr) : Prop := ∃ (i : Nat) (ds : List D), ρ[i]? = some (Sl.acc ds) ∧ σ[i]? = some (some (V.ref a))
structure SR (K : PySem.W.Frag) (G : Gx) (w0 w : Wd) (σ : St) (ρ : Rho) : Prop where
  ok : Ok K G w
  rs : RS K w σ ρ
  io : ∀ l a, w0.io l = some a → w.io l = some a
  hp : ∀ a o, w0.H a = some o → ¬ w0.U a → w.H a = some o ∧ ¬ w.U a
  fz : ∀ a o u, w0.H a = some (.frz o u) → w.H a = some (.frz o u)
  bb : ∀ a, w.B a ↔ (w0.B a ∨ accAt σ ρ a)
  fr : ∀ a, accAt σ ρ a → w0.H a = none
  dj : ∀ (i j : Nat) (ds es : List D) (a : Addr), ρ[i]? = some (Sl.acc ds) → ρ[j]? = some (Sl.acc es) → σ[i]? = some (some (V.ref a)) → σ[j]? = some (some (V.ref a)) → i = j
  b0 : ∀ a, w0.B a → ∃ o, w0.H a = some o
section
variable {K : PySem.W.Frag} {G : Gx} {w0 w w' : Wd} {σ : St} {ρ : Rho}
theorem SR.step (s : SR K G w0 w σ ρ) (f : Fr w w') (o : Ok K G w') : SR K G w0 w' σ ρ :=
  ⟨o, s.rs.fr s.ok f, fun l a h => f.io l a (s.io l a h), fun a u h k => let ⟨h1, k1⟩ := s.hp a u h k; f.hp a u h1 k1, fun a q u h => f.fz a q u (s.fz a q u h), fun a => by rw [f.bb]; exact s.bb a, s.fr, s.dj, s.b0⟩
def Post (K : PySem.W.Frag) (G : Gx) (w0 w : Wd) (D : Ends) (f : Fl) (ρ' : Rho) (S' : Sto) : Prop := match f with
  | .nx => ∀ σ' w', w'.S = S' → Mv w w' → SR K G w0 w' σ' ρ' → D.nx σ' w'.H
  | .bk => ∀ σ' w', w'.S = S' → Mv w w' → SR K G w0 w' σ' ρ' → D.bk σ' w'.H
  | .ct => ∀ σ' w', w'.S = S' → Mv w w' → SR K G w0 w' σ' ρ' → D.ct σ' w'.H
  | .rt d => ∀ v w', w'.S = S' → Fr w0 w' → Ok K G w' → RV K w' v d → D.rt v w'.H
  | .rf ds => ∀ p vs w', w'.S = S' → Fr w0 w' → w0.H p = none → Ok K G (w'.ban p) → w'.H p = some (.lst vs) → RVs K (w'.ban p) vs ds → D.rt (.ref p) w'.H
def SS (K : PySem.W.Frag) (G : Gx) (ts : TS) (run : EvS) : Prop := ∀ w0 w σ ρ f ρ' S', SR K G w0 w σ ρ → run ρ w.S = some (f, ρ', S') → ∀ D : Ends, Post K G w0 w D f ρ' S' → ts D σ w.H
theorem Post.from {D : Ends} {f : Fl} {ρ' : Rho} {S' : Sto} (p : Post K G w0 w D f ρ' S') (m : Mv w w') : Post K G w0 w' D f ρ' S' := by
  cases f with
  | nx => exact fun σ' w2 e m2 s => p σ' w2 e (m.trans m2) s
  | bk => exact fun σ' w2 e m2 s => p σ' w2 e (m.trans m2) s
  | ct => exact fun σ' w2 e m2 s => p σ' w2 e (m.trans m2) s
  | rt d => exact p
  | rf ds => exact p
end
def sNext : EvS := fun ρ S => some (.nx, ρ, S)
def sBrk : EvS := fun ρ S => some (.bk, ρ, S)
def sCnt : EvS := fun ρ S => some (.ct, ρ, S)
def sNever : EvS := fun _ _ => none
def sSeq (a b : EvS) : EvS := fun ρ S => (a ρ S).bind fun x => match x with
  | (.nx, ρ1, S1) => b ρ1 S1
  | r => some r
def sIf (t : EvT) (a b : EvS) : EvS := fun ρ S => (t ρ S).bind fun x => if x.1 = true then a ρ x.2 else b ρ x.2
def sDo (e : Ev) : EvS := fun ρ S => (e ρ S).bind fun x => some (.nx, ρ, x.2)
def sRet (e : Ev) : EvS := fun ρ S => (e ρ S).bind fun x => some (.rt x.1, ρ, x.2)
def sRetN : EvS := fun ρ S => some (.rt .non, ρ, S)
def sRetF (e : EvL) : EvS := fun ρ S => (e ρ S).bind fun x => some (.rf x.1, ρ, x.2)
def sRetA (i : Nat) : EvS := fun ρ S => match ρ[i]? with
  | some (.acc ds) => some (.rf ds, ρ, S)
  | _ => none
/-- targets -/
abbrev EvG := D → Rho → Sto → Option (Rho × Sto)
def gNm (i : Nat) : EvG := fun d ρ S => if i < ρ.length then some (ρ.set i (.val d), S) else none
abbrev EvGs := List D → Rho → Sto → Option (Rho × Sto)
def gsNil : EvGs := fun ds ρ S => match ds with
  | [] => some (ρ, S)
  | _ => none
def gsCons (g : EvG) (h : EvGs) : EvGs := fun ds ρ S => match ds with
  | d :: r => (g d ρ S).bind fun x => h r x.1 x.2
  | _ => none
def gTp (n : Nat) (h : EvGs) : EvG := fun d ρ S => match d with
  | .tup ds => if ds.length = n then h ds ρ S else none
  | _ => none
def sAsg (e : Ev) (g : EvG) : EvS := fun ρ S => (e ρ S).bind fun x => (g x.1 ρ x.2).bind fun y => some (.nx, y.1, y.2)
def sAcc (i : Nat) (e : EvL) : EvS := fun ρ S => (e ρ S).bind fun x => if i < ρ.length then some (.nx, ρ.set i (.acc x.1), x.2) else none
def frz (i : Nat) (ρ : Rho) : Rho := match ρ[i]? with
  | some (.acc ds) => ρ.set i (.val (.lst ds))
  | _ => ρ
def sFrz (i : Nat) (s : EvS) : EvS := fun ρ S => s (frz i ρ) S
def sApp (i : Nat) (e : Ev) : EvS := fun ρ S => (e ρ S).bind fun x => match ρ[i]? with
  | some (.acc ds) => if ds.length < sizeLine then some (.nx, ρ.set i (.acc (ds ++ [x.1])), x.2) else none
  | _ => none
def sExtend (i : Nat) (e : EvL) : EvS := fun ρ S => (e ρ S).bind fun x => match ρ[i]? with
  | some (.acc ds) => if ds.length + x.1.length ≤ sizeLine then some (.nx, ρ.set i (.acc (ds ++ x.1)), x.2) else none
  | _ => none
def sPar (i j : Nat) (a b : Ev) : EvS := fun ρ S => (a ρ S).bind fun x => (b ρ x.2).bind fun y => if i < ρ.length ∧ j < ρ.length then some (.nx, (ρ.set i (.val x.1)).set j (.val y.1), y.2) else none
section
variable {K : PySem.W.Frag} {G : Gx} {t u : TS} {a b : EvS} {te : TE} {ea : Ev} {el : EvL} {tt : TT} {et : EvT}
theorem ss_next : SS K G tNext sNext := fun w0 w σ ρ f ρ' S' s h D p => by
  cases h
  exact p σ w rfl (Mv.refl w) s
theorem ss_never : SS K G tNever sNever := fun w0 w σ ρ f ρ' S' s h D p => by cases h
theorem ss_seq (ha : SS K G t a) (hb : SS K G u b) : SS K G (tSeq t u) (sSeq a b) := fun w0 w σ ρ f ρ' S' s h D p => by
  obtain ⟨⟨f1, ρ1, S1⟩, h1, h2⟩ := bnd h
  refine ha w0 w σ ρ f1 ρ1 S1 s h1 { D with nx := u D } ?_
  cases f1 with
  | nx =>
    intro σ' w' e m s'
    subst e
    exact hb w0 w' σ' ρ1 f ρ' S' s' h2 D (p.from m)
  | bk => cases h2; exact p
  | ct => cases h2; exact p
  | rt d => cases h2; exact p
  | rf ds => cases h2; exact p
theorem ss_if (ht : STt K G tt et) (ha : SS K G t a) (hb : SS K G u b) : SS K G (tIfS tt t u) (sIf et a b) := fun w0 w σ ρ f ρ' S' s h D p => by
  obtain ⟨⟨c, S1⟩, h1, h2⟩ := bnd h
  refine ht w σ ρ c S1 s.ok s.rs h1 _ fun w1 e1 f1 o1 => ?_
  subst e1
  cases c with
  | true => exact ha w0 w1 σ ρ f ρ' S' (s.step f1 o1) h2 D (p.from f1.mv)
  | false => exact hb w0 w1 σ ρ f ρ' S' (s.step f1 o1) h2 D (p.from f1.mv)
theorem ss_do (he : SE K G te ea) : SS K G (tDrop te) (sDo ea) := fun w0 w σ ρ f ρ' S' s h D p => by
  obtain ⟨⟨c, S1⟩, h1, h2⟩ := bnd h
  cases h2
  exact he w σ ρ c _ s.ok s.rs h1 _ fun v w1 e1 f1 o1 r1 => p σ w1 e1 f1.mv (s.step f1 o1)
/-- back to what the entry bars -/
theorem SR.out {w0 w : Wd} {σ : St} {ρ : Rho} (s : SR K G w0 w σ ρ) : Fr w0 (w.withB w0.B) ∧ Ok K G (w.withB w0.B) ∧ Mv w (w.withB w0.B) :=
  ⟨⟨s.io, s.hp, s.fz, rfl⟩, s.ok.shrink fun a h => (s.bb a).mpr (.inl h), Mv.shrink fun a h => (s.bb a).mpr (.inl h)⟩
theorem ss_ret (he : SE K G te ea) : SS K G (tRet te) (sRet ea) := fun w0 w σ ρ f ρ' S' s h D p => by
  obtain ⟨⟨c, S1⟩, h1, h2⟩ := bnd h
  cases h2
  refine he w σ ρ c _ s.ok s.rs h1 _ fun v w1 e1 f1 o1 r1 => ?_
  obtain ⟨q1, q2, q3⟩ := (s.step f1 o1).out
  exact p v (w1.withB w0.B) e1 q1 q2 (r1.mono q3)
theorem ss_retN : SS K G tRetN sRetN := fun w0 w σ ρ f ρ' S' s h D p => by
  cases h
  obtain ⟨q1, q2, q3⟩ := s.out
  exact p .non (w.withB w0.B) rfl q1 q2 .non
theorem SR.free0 {w0 w : Wd} {σ : St} {ρ : Rho} (s : SR K G w0 w σ ρ) {p : Addr} (h : w.H p = none) : w0.H p = none := by
  cases e : w0.H p with
  | none => rfl
  | some o =>
    by_cases u : w0.U p
    · obtain ⟨l, q⟩ := u
      obtain ⟨o', q⟩ := s.ok.uh ⟨l, s.io l p q⟩
      rw [h] at q
      cases q
    · rw [(s.hp p o e u).1] at h
      cases h
theorem ss_retF (he : SF K G te el) : SS K G (tRet te) (sRetF el) := fun w0 w σ ρ f ρ' S' s h D p => by
  obtain ⟨⟨c, S1⟩, h1, h2⟩ := bnd h
  cases h2
  refine he w σ ρ c _ s.ok s.rs h1 _ fun q vs w1 e1 f1 n1 o1 hq r1 => ?_
  have s1 := s.step f1 o1.unban
  obtain ⟨q1, q2, q3⟩ := s1.out
  have sh : ∀ a, ((w1.withB w0.B).ban q).B a → (w1.ban q).B a := fun a z => by
    rcases z with z | z
    · exact .inl ((s1.bb a).mpr (.inl z))
    · exact .inr z
  exact p q vs (w1.withB w0.B) e1 q1 (s.free0 n1) (o1.shrink (B := ((w1.withB w0.B).ban q).B) sh) hq (r1.mono (Mv.shrink (w := w1.ban q) (B := ((w1.withB w0.B).ban q).B) sh))
theorem ss_retA {i : Nat} : SS K G (tRet (tVar i)) (sRetA i) := fun w0 w σ ρ f ρ' S' s h D p => by
  unfold sRetA at h
  split at h
  · rename_i ds e
    cases h
    obtain ⟨a, vs, h1, h2, h3, h4⟩ := s.rs.acc i _ e
    refine ⟨_, h1, ?_⟩
    obtain ⟨q1, q2, q3⟩ := s.out
    have sh : ∀ b, ((w.withB w0.B).ban a).B b → w.B b := fun b z => by
      rcases z with z | z
      · exact (s.bb b).mpr (.inl z)
      · rw [z]
        exact h4
    exact p a vs (w.withB w0.B) rfl q1 (s.fr a ⟨i, _, e, h1⟩) (s.ok.shrink (B := ((w.withB w0.B).ban a).B) sh) h2 (h3.mono (Mv.shrink (w := w) (B := ((w.withB w0.B).ban a).B) sh))
  · cases h
theorem get_set_ne {α : Type} {l : List α} {i j : Nat} {x : α} (h : i ≠ j) : (l.set i x)[j]? = l[j]? := by
  rw [List.getElem?_set, if_neg h]
theorem get_set_eq {α : Type} {l : List α} {i : Nat} {x y : α} (h : (l.set i x)[i]? = some y) : y = x ∧ i < l.length := by
  rw [List.getElem?_set, if_pos rfl] at h
  split at h
  · rename_i q
    cases h
    exact ⟨rfl, q⟩
  · cases h
/-- the bars by the slots as they are now -/
def Wd.bars (w w0 : Wd) (σ : St) (ρ : Rho) : Wd := w.withB fun a => w0.B a ∨ accAt σ ρ a
theorem SR.setv {w0 w : Wd} {σ : St} {ρ : Rho} (s : SR K G w0 w σ ρ) {i : Nat} {v : V} {d : D} (r : RV K w v d) (hi : i < ρ.length) :
    Mv w (w.bars w0 (σ.set i (some v)) (ρ.set i (.val d))) ∧ SR K G w0 (w.bars w0 (σ.set i (some v)) (ρ.set i (.val d))) (σ.set i (some v)) (ρ.set i (.val d)) := by
  have back : ∀ j ds, (ρ.set i (Sl.val d))[j]? = some (Sl.acc ds) → j ≠ i ∧ ρ[j]? = some (Sl.acc ds) := fun j ds h => by
    by_cases q : i = j
    · subst q
      have z := (get_set_eq h).1
      cases z
    · rw [get_set_ne q] at h
      exact ⟨fun z => q z.symm, h⟩
  have ac : ∀ a, accAt (σ.set i (some v)) (ρ.set i (Sl.val d)) a → accAt σ ρ a := fun a ⟨j, ds, h1, h2⟩ => by
    obtain ⟨n, h3⟩ := back j ds h1
    rw [get_set_ne (Ne.symm n)] at h2
    exact ⟨j, ds, h3, h2⟩
  have sh : ∀ a, (w0.B a ∨ accAt (σ.set i (some v)) (ρ.set i (Sl.val d)) a) → w.B a := fun a z => (s.bb a).mpr (z.imp_right (ac a))
  have m : Mv w (w.bars w0 (σ.set i (some v)) (ρ.set i (.val d))) := Mv.shrink sh
  refine ⟨m, s.ok.shrink sh, ⟨?_, ?_, ?_⟩, s.io, s.hp, s.fz, fun a => Iff.rfl, fun a z => s.fr a (ac a z), ?_, s.b0⟩
  · rw [List.length_set, List.length_set]
    exact s.rs.len
  · intro j e h
    by_cases q : i = j
    · subst q
      have z := (get_set_eq h).1
      cases z
      refine ⟨v, ?_, r.mono m⟩
      rw [List.getElem?_set, if_pos rfl, if_pos (by rw [s.rs.len]; exact hi)]
    · rw [get_set_ne q] at h
      obtain ⟨u, h1, h2⟩ := s.rs.val j e h
      exact ⟨u, by rw [get_set_ne q]; exact h1, h2.mono m⟩
  · intro j ds h
    obtain ⟨n, h3⟩ := back j ds h
    obtain ⟨a, vs, h4, h5, h6, h7⟩ := s.rs.acc j ds h3
    have h8 : (σ.set i (some v))[j]? = some (some (V.ref a)) := by rw [get_set_ne (Ne.symm n)]; exact h4
    exact ⟨a, vs, h8, h5, h6.mono m, .inr ⟨j, ds, h, h8⟩⟩
  · intro j k ds es a h1 h2 h3 h4
    obtain ⟨n1, q1⟩ := back j ds h1
    obtain ⟨n2, q2⟩ := back k es h2
    rw [get_set_ne (Ne.symm n1)] at h3
    rw [get_set_ne (Ne.symm n2)] at h4
    exact s.dj j k ds es a q1 q2 h3 h4
/-- a new list, held by one name alone -/
theorem SR.seta {w0 w : Wd} {σ : St} {ρ : Rho} (s : SR K G w0 w σ ρ) {i : Nat} {p : Addr} {w1 : Wd} {vs : List V} {ds : List D} (f : Fr w w1) (n : w.H p = none) (o : Ok K G (w1.ban p)) (h : w1.H p = some (.lst vs)) (r : RVs K (w1.ban p) vs ds) (hi : i < ρ.length) :
    Mv w (w1.bars w0 (σ.set i (some (V.ref p))) (ρ.set i (.acc ds))) ∧ SR K G w0 (w1.bars w0 (σ.set i (some (V.ref p))) (ρ.set i (.acc ds))) (σ.set i (some (V.ref p))) (ρ.set i (.acc ds)) := by
  have s1 := s.step f o.unban
  have np : ∀ j es, ρ[j]? = some (Sl.acc es) → σ[j]? ≠ some (some (V.ref p)) := fun j es h1 h2 => by
    obtain ⟨a, us, h3, h4, _⟩ := s.rs.acc j es h1
    rw [h2] at h3
    cases h3
    rw [n] at h4
    cases h4
  have ac : ∀ a, accAt (σ.set i (some (V.ref p))) (ρ.set i (Sl.acc ds)) a → accAt σ ρ a ∨ a = p := fun a ⟨j, es, h1, h2⟩ => by
    by_cases q : i = j
    · subst q
      have z := (get_set_eq h2).1
      cases z
      exact .inr rfl
    · rw [get_set_ne q] at h1 h2
      exact .inl ⟨j, es, h1, h2⟩
  have sh : ∀ a, (w0.B a ∨ accAt (σ.set i (some (V.ref p))) (ρ.set i (Sl.acc ds)) a) → (w1.ban p).B a := fun a z => by
    rcases z with z | z
    · exact .inl ((s1.bb a).mpr (.inl z))
    · exact (ac a z).imp (fun z => (s1.bb a).mpr (.inr z)) id
  have m0 : Mv w (w1.ban p) := ⟨f.io, fun a u e q => by
    obtain ⟨h1, h2⟩ := f.mv.hp a u e q
    refine ⟨h1, fun z => ?_⟩
    rcases z with (z | z) | z
    · exact h2 (.inl z)
    · rw [z, n] at e
      cases e
    · exact h2 (.inr z), f.fz⟩
  have m1 : Mv (w1.ban p) (w1.bars w0 (σ.set i (some (V.ref p))) (ρ.set i (.acc ds))) := Mv.shrink (w := w1.ban p) sh
  refine ⟨m0.trans m1, o.shrink sh, ⟨?_, ?_, ?_⟩, s1.io, s1.hp, s1.fz, fun a => Iff.rfl, fun a z => ?_, ?_, s.b0⟩
  · rw [List.length_set, List.length_set]
    exact s.rs.len
  · intro j e h
    by_cases q : i = j
    · subst q
      have z := (get_set_eq h).1
      cases z
    · rw [get_set_ne q] at h
      obtain ⟨u, h1, h2⟩ := s.rs.val j e h
      exact ⟨u, by rw [get_set_ne q]; exact h1, h2.mono (m0.trans m1)⟩
  · intro j es h1
    by_cases q : i = j
    · subst q
      have z := (get_set_eq h1).1
      cases z
      have h8 : (σ.set i (some (V.ref p)))[i]? = some (some (V.ref p)) := by rw [List.getElem?_set, if_pos rfl, if_pos (by rw [s.rs.len]; exact hi)]
      exact ⟨p, vs, h8, h, r.mono m1, .inr ⟨i, _, h1, h8⟩⟩
    · have h1' := h1
      rw [get_set_ne q] at h1
      obtain ⟨a, us, h4, h5, h6, h7⟩ := s1.rs.acc j es h1
      have h8 : (σ.set i (some (V.ref p)))[j]? = some (some (V.ref a)) := by rw [get_set_ne q]; exact h4
      obtain ⟨a', us', g4, g5, g6, g7⟩ := s.rs.acc j es h1
      rw [h4] at g4
      cases g4
      obtain ⟨z1, z2⟩ := f.hp a _ g5 (s.ok.dis a g7)
      rw [h5] at z1
      cases z1
      exact ⟨a, us, h8, h5, g6.mono (m0.trans m1), .inr ⟨j, es, h1', h8⟩⟩
  · rcases ac a z with z | z
    · exact s.fr a z
    · rw [z]
      exact s.free0 n
  · intro j k es fs a h1 h2 h3 h4
    by_cases q1 : i = j <;> by_cases q2 : i = k
    · rw [← q1, ← q2]
    · subst q1
      rw [get_set_ne q2] at h2 h4
      have z := (get_set_eq h3).1
      cases z
      exact absurd h4 (np k fs h2)
    · subst q2
      rw [get_set_ne q1] at h1 h3
      have z := (get_set_eq h4).1
      cases z
      exact absurd h3 (np j es h1)
    · rw [get_set_ne q1] at h1 h3
      rw [get_set_ne q2] at h2 h4
      exact s.dj j k es fs a h1 h2 h3 h4
/-- such a list becomes a value -/
theorem SR.frz {w0 w : Wd} {σ : St} {ρ : Rho} (s : SR K G w0 w σ ρ) (i : Nat) : Mv w (w.bars w0 σ (frz i ρ)) ∧ SR K G w0 (w.bars w0 σ (frz i ρ)) σ (frz i ρ) := by
  unfold AH.frz
  split
  · rename_i ds e
    obtain ⟨p, us, p1, p2, p3, p4⟩ := s.rs.acc i ds e
    have hi : i < ρ.length := (List.getElem?_eq_some_iff.mp e).1
    have back : ∀ j es, (ρ.set i (Sl.val (.lst ds)))[j]? = some (Sl.acc es) → j ≠ i ∧ ρ[j]? = some (Sl.acc es) := fun j es h => by
      by_cases q : i = j
      · subst q
        have z := (get_set_eq h).1
        cases z
      · rw [get_set_ne q] at h
        exact ⟨fun z => q z.symm, h⟩
    have ac : ∀ a, accAt σ (ρ.set i (Sl.val (.lst ds))) a → accAt σ ρ a := fun a ⟨j, es, h1, h2⟩ => ⟨j, es, (back j es h1).2, h2⟩
    have sh : ∀ a, (w0.B a ∨ accAt σ (ρ.set i (Sl.val (.lst ds))) a) → w.B a := fun a z => (s.bb a).mpr (z.imp_right (ac a))
    have m : Mv w (w.bars w0 σ (ρ.set i (.val (.lst ds)))) := Mv.shrink sh
    have nx : ¬ (w.bars w0 σ (ρ.set i (.val (.lst ds)))).Ex p := fun z => by
      rcases z with (z | z) | z
      · obtain ⟨o, q⟩ := s.b0 p z
        rw [s.fr p ⟨i, ds, e, p1⟩] at q
        cases q
      · obtain ⟨j, es, h1, h2⟩ := z
        obtain ⟨n, h3⟩ := back j es h1
        exact n (s.dj j i es ds p h3 e h2 p1)
      · exact s.ok.dis p p4 z
    refine ⟨m, s.ok.shrink sh, ⟨?_, ?_, ?_⟩, s.io, s.hp, s.fz, fun a => Iff.rfl, fun a z => s.fr a (ac a z), ?_, s.b0⟩
    · rw [List.length_set]
      exact s.rs.len
    · intro j e' h
      by_cases q : i = j
      · subst q
        have z := (get_set_eq h).1
        cases z
        exact ⟨_, p1, .lst p2 nx (p3.mono m)⟩
      · rw [get_set_ne q] at h
        obtain ⟨u, h1, h2⟩ := s.rs.val j e' h
        exact ⟨u, h1, h2.mono m⟩
    · intro j es h
      obtain ⟨n, h3⟩ := back j es h
      obtain ⟨a, vs, h4, h5, h6, h7⟩ := s.rs.acc j es h3
      exact ⟨a, vs, h4, h5, h6.mono m, .inr ⟨j, es, h, h4⟩⟩
    · intro j k es fs a h1 h2 h3 h4
      exact s.dj j k es fs a (back j es h1).2 (back k fs h2).2 h3 h4
  · have sh : ∀ a, (w0.B a ∨ accAt σ ρ a) → w.B a := fun a z => (s.bb a).mpr z
    have m : Mv w (w.bars w0 σ ρ) := Mv.shrink sh
    exact ⟨m, s.ok.shrink sh, ⟨s.rs.len, fun i d h => let ⟨v, h1, h2⟩ := s.rs.val i d h; ⟨v, h1, h2.mono m⟩, fun i ds h => let ⟨a, vs, h1, h2, h3, h4⟩ := s.rs.acc i ds h; ⟨a, vs, h1, h2, h3.mono m, (s.bb a).mp h4⟩⟩, s.io, s.hp, s.fz, fun a => Iff.rfl, s.fr, s.dj, s.b0⟩
/-- what a barred address holds is another -/
theorem Ok.updB {w : Wd} {p : Addr} {u : HO} (o : Ok K G w) (hp : w.B p) (nf : ∀ q z, w.H p ≠ some (.frz q z)) (nt : ∀ ps, u ≠ .tbl ps := by intro ps z; cases z) (nx : ∀ φ, u ≠ .ext φ := by intro φ z; cases z) : Mv w { w with H := upd w.H p u } ∧ Ok K G { w with H := upd w.H p u } := by
  have m : Mv w { w with H := upd w.H p u } := ⟨fun _ _ e => e, fun a z e k => ⟨by
    show upd w.H p u a = some z
    rw [upd_ne (fun q => k (.inl (by rw [q]; exact hp)))]
    exact e, k⟩, fun a q z e => by
    show upd w.H p u a = some (.frz q z)
    rw [upd_ne (fun y => nf q z (by rw [← y]; exact e))]
    exact e⟩
  refine ⟨m, fun l q e => ?_, o.inj, o.dom, o.nxt, o.dis, fun a b => ?_, fun a ps e => ?_, fun a φ b => ?_, fun c ob e => by
    have z := o.ce c ob e
    show upd w.H p u c = _
    rw [upd_ne (fun y => nf _ _ (by rw [← y]; exact z))]
    exact z⟩
  · obtain ⟨a, h1, h2⟩ := o.obj l q e
    refine ⟨a, h1, h2.mono m ?_⟩
    show upd w.H p u a = w.H a
    exact upd_ne fun q => o.dis p hp ⟨l, by rw [← q]; exact h1⟩
  · by_cases q : a = p
    · exact ⟨u, by rw [q]; exact upd_same⟩
    · obtain ⟨z, hz⟩ := o.bh a b
      exact ⟨z, by
        show upd w.H p u a = some z
        rw [upd_ne q]
        exact hz⟩
  · have e : upd w.H p u a = some (.tbl ps) := e
    by_cases q : a = p
    · rw [q, upd_same] at e
      exact absurd (Option.some.inj e) (nt ps)
    · rw [upd_ne q] at e
      exact o.tb a ps e
  · show upd w.H p u a ≠ _
    by_cases q : a = p
    · rw [q, upd_same]
      exact fun z => nx φ (Option.some.inj z)
    · rw [upd_ne q]
      exact o.bx a φ b
theorem SR.upda {w0 w : Wd} {σ : St} {ρ : Rho} (s : SR K G w0 w σ ρ) {i : Nat} {p : Addr} {vs : List V} {ds es : List D} (e : ρ[i]? = some (.acc es)) (h : σ[i]? = some (some (V.ref p))) (hb : w.B p) (r : RVs K w vs ds) :
    Mv w { w with H := upd w.H p (.lst vs) } ∧ SR K G w0 { w with H := upd w.H p (.lst vs) } σ (ρ.set i (.acc ds)) := by
  obtain ⟨p', us', y1, y2, _, _⟩ := s.rs.acc i _ e
  have nf : ∀ q z, w.H p ≠ some (.frz q z) := fun q z y => by
    rw [h] at y1
    cases y1
    rw [y] at y2
    cases y2
  obtain ⟨m, o⟩ := s.ok.updB (u := .lst vs) hb nf
  have hi : i < ρ.length := (List.getElem?_eq_some_iff.mp e).1
  have back : ∀ j fs, (ρ.set i (Sl.acc ds))[j]? = some (Sl.acc fs) → ∃ gs, ρ[j]? = some (Sl.acc gs) := fun j fs h => by
    by_cases q : i = j
    · subst q
      exact ⟨es, e⟩
    · rw [get_set_ne q] at h
      exact ⟨fs, h⟩
  have fwd : ∀ j fs, ρ[j]? = some (Sl.acc fs) → ∃ gs, (ρ.set i (Sl.acc ds))[j]? = some (Sl.acc gs) := fun j fs h => by
    by_cases q : i = j
    · subst q
      exact ⟨ds, by rw [List.getElem?_set, if_pos rfl, if_pos hi]⟩
    · exact ⟨fs, by rw [get_set_ne q]; exact h⟩
  have ac : ∀ a, accAt σ (ρ.set i (Sl.acc ds)) a ↔ accAt σ ρ a := fun a => ⟨fun ⟨j, fs, h1, h2⟩ => let ⟨gs, h3⟩ := back j fs h1; ⟨j, gs, h3, h2⟩, fun ⟨j, fs, h1, h2⟩ => let ⟨gs, h3⟩ := fwd j fs h1; ⟨j, gs, h3, h2⟩⟩
  refine ⟨m, o, ⟨?_, ?_, ?_⟩, s.io, fun a u h1 h2 => ?_, fun a q u h1 => m.fz a q u (s.fz a q u h1), fun a => ?_, fun a z => s.fr a ((ac a).mp z), ?_, s.b0⟩
  · rw [List.length_set]
    exact s.rs.len
  · intro j e' h
    by_cases q : i = j
    · subst q
      have z := (get_set_eq h).1
      cases z
    · rw [get_set_ne q] at h
      obtain ⟨u, h1, h2⟩ := s.rs.val j e' h
      exact ⟨u, h1, h2.mono m⟩
  · intro j fs h1
    by_cases q : i = j
    · subst q
      have z := (get_set_eq h1).1
      cases z
      exact ⟨p, vs, h, upd_same, r.mono m, hb⟩
    · rw [get_set_ne q] at h1
      obtain ⟨a, us, h4, h5, h6, h7⟩ := s.rs.acc j fs h1
      have ne : a ≠ p := fun z => q (s.dj i j es fs p e h1 h (by rw [← z]; exact h4))
      exact ⟨a, us, h4, by
        show upd w.H p (.lst vs) a = _
        rw [upd_ne ne]
        exact h5, h6.mono m, h7⟩
  · obtain ⟨h3, h4⟩ := s.hp a u h1 h2
    refine ⟨?_, h4⟩
    show upd w.H p (.lst vs) a = some u
    rw [upd_ne (fun z => ?_)]
    · exact h3
    · rw [z, s.fr p ⟨i, es, e, h⟩] at h1
      cases h1
  · show w.B a ↔ _
    rw [ac a]
    exact s.bb a
  · intro j k fs gs a h1 h2 h3 h4
    obtain ⟨fs', q1⟩ := back j fs h1
    obtain ⟨gs', q2⟩ := back k gs h2
    exact s.dj j k fs' gs' a q1 q2 h3 h4
def SG (K : PySem.W.Frag) (G : Gx) (g : TG) (eg : EvG) : Prop := ∀ w0 w σ ρ x d ρ' S', SR K G w0 w σ ρ → RV K w x d → eg d ρ w.S = some (ρ', S') → ∀ Q, (∀ σ' w', w'.S = S' → Mv w w' → SR K G w0 w' σ' ρ' → Q σ' w'.H) → g x σ w.H Q
def SGs (K : PySem.W.Frag) (G : Gx) (g : TGs) (eg : EvGs) : Prop := ∀ w0 w σ ρ x d ρ' S', SR K G w0 w σ ρ → RVs K w x d → eg d ρ w.S = some (ρ', S') → ∀ Q, (∀ σ' w', w'.S = S' → Mv w w' → SR K G w0 w' σ' ρ' → Q σ' w'.H) → g x σ w.H Q
theorem sg_name {i : Nat} : SG K G (gName i) (gNm i) := fun w0 w σ ρ x d ρ' S' s r h Q k => by
  unfold gNm at h
  split at h
  · rename_i hi
    cases h
    obtain ⟨m, s'⟩ := s.setv r hi
    exact k _ (w.bars w0 (σ.set i (some x)) (ρ.set i (.val d))) rfl m s'
  · cases h
theorem sgs_nil : SGs K G gNil gsNil := fun w0 w σ ρ x d ρ' S' s r h Q k => by
  unfold gsNil at h
  split at h
  · cases h
    cases r
    exact ⟨rfl, k σ w rfl (Mv.refl w) s⟩
  · cases h
theorem sgs_cons {g : TG} {gs : TGs} {eg : EvG} {egs : EvGs} (h1 : SG K G g eg) (h2 : SGs K G gs egs) : SGs K G (gCons g gs) (gsCons eg egs) := fun w0 w σ ρ x d ρ' S' s r h Q k => by
  unfold gsCons at h
  split at h
  · obtain ⟨⟨ρ1, S1⟩, q1, q2⟩ := bnd h
    cases r with
    | cons r1 r2 =>
      refine ⟨_, _, rfl, h1 w0 w σ ρ _ _ ρ1 S1 s r1 q1 _ fun σ1 w1 e1 m1 s1 => ?_⟩
      subst e1
      exact h2 w0 w1 σ1 ρ1 _ _ ρ' S' s1 (r2.mono m1) q2 Q fun σ2 w2 e2 m2 s2 => k σ2 w2 e2 (m1.trans m2) s2
  · cases h
theorem sg_tup {n : Nat} {gs : TGs} {egs : EvGs} (h1 : SGs K G gs egs) : SG K G (gTup K n gs) (gTp n egs) := fun w0 w σ ρ x d ρ' S' s r h Q k => by
  unfold gTp at h
  split at h
  · split at h
    · rename_i hl
      cases r with
      | tup q1 q2 q3 => exact ⟨_, _, rfl, SqT.of q1, by rw [q3.length]; exact hl, h1 w0 w σ ρ _ _ ρ' S' s q3 h Q k⟩
    · cases h
  · cases h
theorem ss_asg {g : TG} {eg : EvG} (he : SE K G te ea) (hg : SG K G g eg) : SS K G (tAsg te g) (sAsg ea eg) := fun w0 w σ ρ f ρ' S' s h D p => by
  obtain ⟨⟨c, S1⟩, h1, h2⟩ := bnd h
  obtain ⟨⟨ρ1, S2⟩, h3, h4⟩ := bnd h2
  cases h4
  refine he w σ ρ c _ s.ok s.rs h1 _ fun v w1 e1 f1 o1 r1 => ?_
  subst e1
  exact hg w0 w1 σ ρ v c _ _ (s.step f1 o1) r1 h3 _ fun σ2 w2 e2 m2 s2 => p σ2 w2 e2 (f1.mv.trans m2) s2
theorem ss_acc {i : Nat} (he : SF K G te el) : SS K G (tAsg te (gName i)) (sAcc i el) := fun w0 w σ ρ f ρ' S' s h D p => by
  obtain ⟨⟨c, S1⟩, h1, h2⟩ := bnd h
  split at h2
  · rename_i hi
    cases h2
    refine he w σ ρ c _ s.ok s.rs h1 _ fun q vs w1 e1 f1 n1 o1 hq r1 => ?_
    obtain ⟨m, s'⟩ := s.seta f1 n1 o1 hq r1 hi
    exact p _ (w1.bars w0 (σ.set i (some (V.ref q))) (ρ.set i (.acc c))) e1 m s'
  · cases h2
theorem ty_list {w : Wd} {a : Addr} {vs : List V} (h : w.H a = some (.lst vs)) : tyV K "list" (.ref a) w.H := Or.inl ⟨rfl, _, Or.inl (Or.inl h)⟩
theorem ss_app {i : Nat} (he : SE K G te ea) : SS K G (tDrop (tBM K "list" rAppend (tVar i) (tCons te tNil))) (sApp i ea) := fun w0 w σ ρ f ρ' S' s h D p => by
  obtain ⟨⟨c, S1⟩, h1, h2⟩ := bnd h
  dsimp only at h2
  split at h2
  · rename_i es0 e0
    split at h2
    · rename_i hl
      cases h2
      obtain ⟨a, vs, q1, q2, q3, q4⟩ := s.rs.acc i _ e0
      refine ⟨_, q1, ty_list q2, he w σ ρ c _ s.ok s.rs h1 _ fun v w1 e1 f1 o1 r1 => ?_⟩
      have s1 := s.step f1 o1
      obtain ⟨q5, _⟩ := f1.hp a _ q2 (s.ok.dis a q4)
      refine ⟨a, vs, v, rfl, rfl, q5, by rw [q3.length]; exact hl, ?_⟩
      have b1 : w1.B a := by rw [f1.bb]; exact q4
      obtain ⟨m, s'⟩ := s1.upda (ds := es0 ++ [c]) e0 q1 b1 ((q3.mono f1.mv).append (.one r1))
      exact p σ { w1 with H := upd w1.H a (.lst (vs ++ [v])) } e1 (f1.mv.trans m) s'
    · cases h2
  · cases h2
theorem ss_par {i j : Nat} {ta tb : TE} {ea eb : Ev} (hij : i ≠ j) (ha : SE K G ta ea) (hb : SE K G tb eb) : SS K G (tPar i j (tCons ta (tCons tb tNil))) (sPar i j ea eb) := fun w0 w σ ρ f ρ' S' s h D p => by
  obtain ⟨⟨c, S1⟩, h1, h2⟩ := bnd h
  obtain ⟨⟨d, S2⟩, h3, h4⟩ := bnd h2
  split at h4
  · rename_i hl
    cases h4
    refine ha w σ ρ c _ s.ok s.rs h1 _ fun v w1 e1 f1 o1 r1 => ?_
    subst e1
    have s1 := s.step f1 o1
    refine hb w1 σ ρ d _ s1.ok s1.rs h3 _ fun u w2 e2 f2 o2 r2 => ?_
    have s2 := s1.step f2 o2
    refine ⟨v, u, rfl, ?_⟩
    obtain ⟨m3, s3⟩ := s2.setv (i := i) (r1.mono f2.mv) hl.1
    obtain ⟨m4, s4⟩ := s3.setv (i := j) (r2.mono m3) (by rw [List.length_set]; exact hl.2)
    exact p _ ((w2.bars w0 (σ.set i (some v)) (ρ.set i (.val c))).bars w0 ((σ.set i (some v)).set j (some u)) ((ρ.set i (.val c)).set j (.val d))) e2 (((f1.mv.trans f2.mv).trans m3).trans m4) s4
  · cases h4
end
end AH
set_option maxRecDepth 100000
set_option maxHeartbeats 2000000
namespace AH
open PySem L2 TL
def JOK (K : PySem.W.Frag) (G : Gx) (J : It) (w1 : Wd) (ds : List D) : Prop := ∀ (i : Nat) (w : Wd), Mv w1 w → Ok K G w →
  (∀ d, ds[i]? = some d → J.go i w.H ∧ ∀ x H', J.yld i w.H x H' → ∃ w2, w2.H = H' ∧ w2.S = w.S ∧ Fr w w2 ∧ Ok K G w2 ∧ RV K w2 x d) ∧ (i = ds.length → J.stop i w.H)
def SI (K : PySem.W.Frag) (G : Gx) (wi : TI) (ev : EvL) : Prop := ∀ w σ ρ ds S', Ok K G w → RS K w σ ρ → ev ρ w.S = some (ds, S') → ∀ R : It → Hp → Prop, (∀ J w', w'.S = S' → Fr w w' → Ok K G w' → JOK K G J w' ds → R J w'.H) → wi σ w.H R
theorem JOK.mono {K : PySem.W.Frag} {G : Gx} {J : It} {w1 w2 : Wd} {ds : List D} (j : JOK K G J w1 ds) (m : Mv w1 w2) : JOK K G J w2 ds := fun i w m2 o => j i w (m.trans m2) o
def iL (a : Ev) : EvL := fun ρ S => (a ρ S).bind fun x => match x.1 with
  | .lst ds => some (ds, x.2)
  | .tup _ => none
  | .scr ns => some (ns.map D.int, x.2)
  | _ => none
def iT (a : Ev) : EvL := fun ρ S => (a ρ S).bind fun x => match x.1 with
  | .tup ds => some (ds, x.2)
  | _ => none
def chars (z : List Nat) : List D := z.map fun c => D.str [c]
def iS (a : Ev) : EvL := fun ρ S => (a ρ S).bind fun x => match x.1 with
  | .str z => some (chars z, x.2)
  | _ => none
def rng (lo : Int) (n : Nat) : List D := (List.range n).map fun k => D.int (lo + (k : Nat))
def iR1 (a : EvL) : EvL := fun ρ S => (a ρ S).bind fun x => match x.1 with
  | [.int j] => if -1000000000 ≤ j ∧ j ≤ 1000000000 then some (rng 0 j.toNat, x.2) else none
  | _ => none
def iR2 (a : EvL) : EvL := fun ρ S => (a ρ S).bind fun x => match x.1 with
  | [.int i, .int j] => if -1000000000 ≤ i ∧ i ≤ 1000000000 ∧ -1000000000 ≤ j ∧ j ≤ 1000000000 then some (rng i (j - i).toNat, x.2) else none
  | _ => none
/-- range(i, j, c), c above 0 -/
def rng3 (lo c : Int) (n : Nat) : List D := (List.range n).map fun k => D.int (lo + (k : Nat) * c)
def rn3 (i j c : Int) : Nat := if i < j then ((j - i - 1) / c + 1).toNat else 0
def iR3 (a : EvL) : EvL := fun ρ S => (a ρ S).bind fun x => match x.1 with
  | [.int i, .int j, .int c] => if 0 ≤ i ∧ i ≤ 1000000000 ∧ 0 ≤ j ∧ j ≤ 1000000000 ∧ 0 < c ∧ c ≤ 1000000 then some (rng3 i c (rn3 i j c), x.2) else none
  | _ => none
def enumD (ds : List D) : List D := (List.range ds.length).map fun k => D.tup [.int (k : Nat), ds.getD k .non]
def iE (a : EvL) : EvL := fun ρ S => (a ρ S).bind fun x => match x.1 with
  | [.lst ds] => some (enumD ds, x.2)
  | _ => none
section
variable {K : PySem.W.Frag} {G : Gx}
theorem jok_list {w1 : Wd} {a : Addr} {vs : List V} {ds : List D} (h : w1.H a = some (.lst vs)) (n : ¬ w1.Ex a) (r : RVs K w1 vs ds) : JOK K G (Itl K a) w1 ds := fun i w m o => by
  obtain ⟨q, _⟩ := m.hp a _ h n
  refine ⟨fun d hd => ?_, fun e => ⟨vs, SqL.of q, by rw [r.length, e]; exact Nat.le_refl _⟩⟩
  obtain ⟨v, h1, h2⟩ := r.get hd
  refine ⟨⟨vs, v, SqL.of q, h1⟩, fun x H' y => ?_⟩
  obtain ⟨y1, y2⟩ := y
  subst y1
  have := y2 vs (SqL.of q)
  rw [h1] at this
  cases this
  exact ⟨w, rfl, rfl, Fr.refl w, o, h2.mono m⟩
theorem si_list {te : TE} {ea : Ev} (h : SE K G te ea) : SI K G (iList K te) (iL ea) := fun w σ ρ ds S' o rs hh R k => by
  obtain ⟨⟨d, S1⟩, h1, h2⟩ := bnd hh
  refine h w σ ρ d S1 o rs h1 _ fun v w1 e1 f1 o1 r1 => ?_
  subst e1
  cases d with
  | lst es =>
    cases h2
    cases r1 with
    | lst q1 q2 q3 => exact ⟨_, rfl, ⟨_, SqL.of q1⟩, k _ w1 rfl f1 o1 (jok_list q1 q2 q3)⟩
  | scr ns =>
    cases h2
    obtain ⟨a, rfl, q⟩ := scr_sql r1
    refine ⟨a, rfl, ⟨_, q⟩, k _ w1 rfl f1 o1 fun i w' m o' => ?_⟩
    obtain ⟨a', e, q'⟩ := scr_sql (r1.mono m)
    cases e
    refine ⟨fun d hd => ?_, fun e => ⟨_, q', by rw [List.length_map, e, List.length_map]; exact Nat.le_refl _⟩⟩
    have hn : ∃ n, ns[i]? = some n ∧ d = .int n := by
      rw [List.getElem?_map] at hd
      cases z : ns[i]? with
      | none => rw [z] at hd; cases hd
      | some n => rw [z] at hd; cases hd; exact ⟨n, rfl, rfl⟩
    obtain ⟨n, hn, rfl⟩ := hn
    have hv : (ns.map V.int)[i]? = some (V.int n) := by rw [List.getElem?_map, hn]; rfl
    refine ⟨⟨_, _, q', hv⟩, fun x H' y => ?_⟩
    obtain ⟨y1, y2⟩ := y
    subst y1
    have := y2 _ q'
    rw [hv] at this
    cases this
    exact ⟨w', rfl, rfl, Fr.refl w', o', .int⟩
  | _ => cases h2
theorem si_listF {te : TE} {el : EvL} (h : SF K G te el) : SI K G (iList K te) el := fun w σ ρ ds S' o rs hh R k =>
  h w σ ρ ds S' o rs hh _ fun p vs w1 e1 f1 n1 o1 hp r1 => ⟨p, rfl, ⟨_, SqL.of hp⟩, k _ w1 e1 f1 o1.unban (jok_list hp (fun z => by
    rcases z with z | z
    · rw [f1.bb] at z
      obtain ⟨q, hq⟩ := o.bh p z
      rw [n1] at hq
      cases hq
    · exact o1.dis p (.inr rfl) z) r1.unban)⟩
theorem si_tup {te : TE} {ea : Ev} (h : SE K G te ea) : SI K G (iTup K te) (iT ea) := fun w σ ρ ds S' o rs hh R k => by
  obtain ⟨⟨d, S1⟩, h1, h2⟩ := bnd hh
  refine h w σ ρ d S1 o rs h1 _ fun v w1 e1 f1 o1 r1 => ?_
  subst e1
  cases d with
  | tup es =>
    cases h2
    cases r1 with
    | tup q1 q2 q3 =>
      rename_i a vs
      refine ⟨_, rfl, ⟨_, SqT.of q1⟩, k _ w1 rfl f1 o1 fun i w' m o' => ?_⟩
      obtain ⟨q, _⟩ := m.hp a _ q1 q2
      refine ⟨fun d hd => ?_, fun e => ⟨vs, SqT.of q, by rw [q3.length, e]; exact Nat.le_refl _⟩⟩
      obtain ⟨v, g1, g2⟩ := q3.get hd
      refine ⟨⟨vs, v, SqT.of q, g1⟩, fun x H' y => ?_⟩
      obtain ⟨y1, y2⟩ := y
      subst y1
      have := y2 vs (SqT.of q)
      rw [g1] at this
      cases this
      exact ⟨w', rfl, rfl, Fr.refl w', o', g2.mono m⟩
  | _ => cases h2
theorem si_str {te : TE} {ea : Ev} (h : SE K G te ea) : SI K G (iStr te) (iS ea) := fun w σ ρ ds S' o rs hh R k => by
  obtain ⟨⟨d, S1⟩, h1, h2⟩ := bnd hh
  refine h w σ ρ d S1 o rs h1 _ fun v w1 e1 f1 o1 r1 => ?_
  subst e1
  cases d with
  | str z =>
    cases h2
    cases r1
    refine ⟨_, rfl, k _ w1 rfl f1 o1 fun i w' m o' => ?_⟩
    have sz : (⟨z.toArray⟩ : Str).cps.size = z.length := by simp
    refine ⟨fun d hd => ?_, fun e => ?_⟩
    · unfold chars at hd
      rw [List.getElem?_map] at hd
      cases q : z[i]? with
      | none => rw [q] at hd; cases hd
      | some c =>
        rw [q] at hd
        cases hd
        have hi : i < z.length := (List.getElem?_eq_some_iff.mp q).1
        refine ⟨by show i < (⟨z.toArray⟩ : Str).cps.size; rw [sz]; exact hi, fun x H' y => ?_⟩
        obtain ⟨y1, c', y2, y3⟩ := y
        subst y1 y3
        have : z[i]? = some c' := by simpa using y2
        rw [q] at this
        cases this
        exact ⟨w', rfl, rfl, Fr.refl w', o', .str⟩
    · show (⟨z.toArray⟩ : Str).cps.size ≤ i
      rw [sz, e]
      simp [chars]
  | _ => cases h2
theorem jok_rng {w1 : Wd} (lo : Int) (n : Nat) : JOK K G (Itr lo n) w1 (rng lo n) := fun i w m o => by
  unfold rng
  refine ⟨fun d hd => ?_, fun e => by
    show n ≤ i
    rw [e]
    simp⟩
  rw [List.getElem?_map] at hd
  cases q : (List.range n)[i]? with
  | none => rw [q] at hd; cases hd
  | some c =>
    rw [q] at hd
    cases hd
    obtain ⟨hi, he⟩ := List.getElem?_eq_some_iff.mp q
    rw [List.length_range] at hi
    rw [List.getElem_range] at he
    subst he
    refine ⟨hi, fun x H' y => ?_⟩
    obtain ⟨y1, y2⟩ := y
    subst y1 y2
    exact ⟨w, rfl, rfl, Fr.refl w, o, .int⟩
theorem si_r1 {ta : TA} {el : EvL} (h : SA K G ta el) : SI K G (iRng1 ta) (iR1 el) := fun w σ ρ ds S' o rs hh R k => by
  obtain ⟨⟨d, S1⟩, h1, h2⟩ := bnd hh
  refine h w σ ρ d S1 o rs h1 _ fun v w1 e1 f1 o1 r1 => ?_
  subst e1
  dsimp only at h2
  split at h2
  · split at h2
    · rename_i j hj
      cases h2
      obtain ⟨v, rfl, r2⟩ := r1.one_of
      cases r2
      exact ⟨j, rfl, by omega, by omega, k _ w1 rfl f1 o1 (jok_rng 0 _)⟩
    · cases h2
  · cases h2
theorem rg_ok {i j c : Int} (h : 0 ≤ i ∧ i ≤ 1000000000 ∧ 0 ≤ j ∧ j ≤ 1000000000 ∧ 0 < c ∧ c ≤ 1000000) : RgC i j c (rn3 i j c) := by
  refine ⟨by omega, by omega, ?_, ?_⟩
  · have e : Builtin.Range.rangeSize i j c = if i < j then (j - i - 1) / c + 1 else 0 := by
      unfold Builtin.Range.rangeSize
      rw [if_pos h.2.2.2.2.1]
    have e0 : (0 : Int) ≤ (j - i - 1) / c ∨ ¬ i < j := by
      by_cases q : i < j
      · exact .inl (Int.ediv_nonneg (by omega) (by omega))
      · exact .inr q
    have e1 : (j - i - 1) / c ≤ 1000000000 ∨ ¬ i < j := by
      by_cases q : i < j
      · exact .inl (Int.le_trans (Int.ediv_le_self _ (by omega)) (by omega))
      · exact .inr q
    unfold Builtin.Range.small
    rw [e, if_pos h.2.2.2.2.1]
    simp only [Builtin.Range.rangeFitsLong, Bool.and_eq_true, Bool.or_eq_true, decide_eq_true_eq, beq_iff_eq]
    generalize (j - i - 1) / c = q at e0 e1 ⊢
    by_cases z : i < j
    · rw [if_pos z]
      omega
    · rw [if_neg z]
      omega
  · unfold Builtin.Range.rangeSize rn3
    rw [if_pos h.2.2.2.2.1]
    by_cases q : i < j
    · rw [if_pos q, if_pos q]
      have : 0 ≤ (j - i - 1) / c := Int.ediv_nonneg (by omega) (by omega)
      omega
    · rw [if_neg q, if_neg q]
      rfl
theorem si_r3 {ta : TA} {el : EvL} (h : SA K G ta el) : SI K G (iRng3 ta) (iR3 el) := fun w σ ρ ds S' o rs hh R k => by
  obtain ⟨⟨d, S1⟩, h1, h2⟩ := bnd hh
  refine h w σ ρ d S1 o rs h1 _ fun v w1 e1 f1 o1 r1 => ?_
  subst e1
  dsimp only at h2
  split at h2
  · split at h2
    · rename_i i j c hj
      cases h2
      cases r1 with
      | cons r2 r1 =>
        obtain ⟨v, u, rfl, r3, r4⟩ := r1.two_of
        cases r2
        cases r3
        cases r4
        refine ⟨i, j, c, _, rfl, rg_ok hj, k _ w1 rfl f1 o1 fun n w m o => ?_⟩
        unfold rng3
        refine ⟨fun d hd => ?_, fun e => by
          show _ ≤ n
          rw [e]
          simp⟩
        rw [List.getElem?_map] at hd
        cases q : (List.range (rn3 i j c))[n]? with
        | none => rw [q] at hd; cases hd
        | some c' =>
          rw [q] at hd
          cases hd
          obtain ⟨hi, he⟩ := List.getElem?_eq_some_iff.mp q
          rw [List.length_range] at hi
          rw [List.getElem_range] at he
          subst he
          refine ⟨hi, fun x H' y => ?_⟩
          obtain ⟨y1, y2⟩ := y
          subst y1 y2
          exact ⟨w, rfl, rfl, Fr.refl w, o, .int⟩
    · cases h2
  · cases h2
def forL (g : EvG) (b : EvS) : List D → EvS
  | [], ρ, S => some (.nx, ρ, S)
  | d :: ds, ρ, S => match g d ρ S with
    | none => none
    | some (ρ1, S1) => match b ρ1 S1 with
      | some (.nx, ρ2, S2) => forL g b ds ρ2 S2
      | some (.ct, ρ2, S2) => forL g b ds ρ2 S2
      | some (.bk, ρ2, S2) => some (.nx, ρ2, S2)
      | r => r
def sFor (it : EvL) (g : EvG) (b : EvS) : EvS := fun ρ S => (it ρ S).bind fun x => forL g b x.1 ρ x.2
theorem forL_ok {g : TG} {eg : EvG} {tb : TS} {eb : EvS} (hg : SG K G g eg) (hb : SS K G tb eb) {w0 w1 : Wd} {J : It} {ds : List D} (jk : JOK K G J w1 ds) {σ : St} {ρ : Rho} {f : Fl} {ρ' : Rho} {S' : Sto} (s : SR K G w0 w1 σ ρ)
    (h : forL eg eb ds ρ w1.S = some (f, ρ', S')) {D : Ends} (p : Post K G w0 w1 D f ρ' S') :
    ∃ W : Nat → Nat → St → Hp → Prop, (∃ m, W 0 m σ w1.H) ∧ ∀ i m σ H, W i m σ H →
      (J.stop i H ∧ D.nx σ H) ∨ (J.go i H ∧ ∃ N : St → Hp → Prop, (∀ σ' H', N σ' H' → ∃ m', m' < m ∧ W (i + 1) m' σ' H') ∧ ∀ x H', J.yld i H x H' → g x σ H' fun σ2 H2 => tb { D with nx := N, ct := N, bk := D.nx } σ2 H2) := by
  refine ⟨fun i m σ H => m = ds.length - i ∧ i ≤ ds.length ∧ ∃ w ρ, w.H = H ∧ Mv w1 w ∧ SR K G w0 w σ ρ ∧ forL eg eb (ds.drop i) ρ w.S = some (f, ρ', S'), ⟨ds.length, by simp, Nat.zero_le _, w1, ρ, rfl, Mv.refl _, s, by simpa using h⟩, ?_⟩
  rintro i m σ H ⟨rfl, hi, w, ρ, rfl, mv, s, hh⟩
  obtain ⟨j1, j2⟩ := jk i w mv s.ok
  by_cases hlt : i < ds.length
  · right
    have hd : ds[i]? = some ds[i] := List.getElem?_eq_getElem hlt
    obtain ⟨go, yl⟩ := j1 _ hd
    rw [List.drop_eq_getElem_cons hlt, forL] at hh
    refine ⟨go, fun σ' H' => ∃ w' ρ2, w'.H = H' ∧ Mv w1 w' ∧ SR K G w0 w' σ' ρ2 ∧ forL eg eb (ds.drop (i + 1)) ρ2 w'.S = some (f, ρ', S'), fun σ' H' ⟨w', ρ2, e, m2, s2, h2⟩ => ⟨_, by omega, rfl, hlt, w', ρ2, e, m2, s2, h2⟩, fun x H' y => ?_⟩
    obtain ⟨w2, e2, eS, f2, o2, r2⟩ := yl x H' y
    subst e2
    cases q1 : eg ds[i] ρ w.S with
    | none => rw [q1] at hh; cases hh
    | some z =>
      obtain ⟨ρ1, S1⟩ := z
      rw [q1] at hh
      dsimp only at hh
      refine hg w0 w2 σ ρ x _ ρ1 S1 (s.step f2 o2) r2 (by rw [eS]; exact q1) _ fun σ3 w3 e3 m3 s3 => ?_
      subst e3
      have m13 : Mv w1 w3 := (mv.trans f2.mv).trans m3
      cases q2 : eb ρ1 w3.S with
      | none => rw [q2] at hh; cases hh
      | some z =>
        obtain ⟨fl, ρ2, S2⟩ := z
        rw [q2] at hh
        refine hb w0 w3 σ3 ρ1 fl ρ2 S2 s3 q2 _ ?_
        cases fl with
        | nx => exact fun σ4 w4 e4 m4 s4 => ⟨w4, ρ2, rfl, m13.trans m4, s4, by rw [e4]; exact hh⟩
        | ct => exact fun σ4 w4 e4 m4 s4 => ⟨w4, ρ2, rfl, m13.trans m4, s4, by rw [e4]; exact hh⟩
        | bk =>
          cases hh
          exact fun σ4 w4 e4 m4 s4 => p σ4 w4 e4 (m13.trans m4) s4
        | rt d => cases hh; exact p
        | rf d => cases hh; exact p
  · left
    have e : i = ds.length := by omega
    refine ⟨j2 e, ?_⟩
    rw [e, List.drop_length, forL] at hh
    cases hh
    exact p σ w rfl mv s
theorem ss_for {wi : TI} {ei : EvL} {g : TG} {eg : EvG} {tb : TS} {eb : EvS} (hi : SI K G wi ei) (hg : SG K G g eg) (hb : SS K G tb eb) : SS K G (tFor wi g tb) (sFor ei eg eb) := fun w0 w σ ρ f ρ' S' s h D p => by
  obtain ⟨⟨ds, S1⟩, h1, h2⟩ := bnd h
  refine hi w σ ρ ds S1 s.ok s.rs h1 _ fun J w1 e1 f1 o1 jk => ?_
  subst e1
  exact forL_ok hg hb jk (s.step f1 o1) h2 (p.from f1.mv)
def wipeR (ρ : Rho) : List Nat → Rho
  | [] => ρ
  | v :: vs => (wipeR ρ vs).set v .no
theorem wipe_at (σ : St) : ∀ (vs : List Nat) (k : Nat), (wipe σ vs)[k]? = if k ∈ vs then σ[k]?.map fun _ => none else σ[k]?
  | [], k => by simp [wipe]
  | v :: vs, k => by
    rw [wipe, List.getElem?_set]
    by_cases h : v = k
    · subst h
      rw [if_pos rfl, if_pos (List.mem_cons_self ..), wipe_length]
      by_cases hl : v < σ.length
      · rw [if_pos hl, List.getElem?_eq_getElem hl]
        rfl
      · rw [if_neg hl, List.getElem?_eq_none (Nat.le_of_not_lt hl)]
        rfl
    · rw [if_neg h, wipe_at σ vs k]
      have : (k ∈ v :: vs) ↔ (k ∈ vs) := by
        simp only [List.mem_cons]
        exact ⟨fun z => z.elim (fun q => absurd q.symm h) id, .inr⟩
      by_cases q : k ∈ vs
      · rw [if_pos q, if_pos (this.mpr q)]
      · rw [if_neg q, if_neg (fun z => q (this.mp z))]
theorem wipe_set {σ : St} {vs : List Nat} {j : Nat} {x : Option V} (h : j ∈ vs) : wipe (σ.set j x) vs = wipe σ vs := by
  apply List.ext_getElem?
  intro k
  rw [wipe_at, wipe_at]
  by_cases q : k ∈ vs
  · rw [if_pos q, if_pos q, List.getElem?_set]
    by_cases z : j = k
    · subst z
      rw [if_pos rfl]
      by_cases hl : j < σ.length
      · rw [if_pos hl, List.getElem?_eq_getElem hl]
        rfl
      · rw [if_neg hl, List.getElem?_eq_none (Nat.le_of_not_lt hl)]
    · rw [if_neg z]
  · rw [if_neg q, if_neg q, List.getElem?_set, if_neg (fun z => q (by rw [← z]; exact h))]
theorem wipe_wipe (σ : St) (vs : List Nat) : wipe (wipe σ vs) vs = wipe σ vs := by
  apply List.ext_getElem?
  intro k
  rw [wipe_at]
  by_cases q : k ∈ vs
  · rw [if_pos q, wipe_at, if_pos q]
    cases σ[k]? <;> rfl
  · rw [if_neg q]
theorem wipeR_at (ρ : Rho) : ∀ (vs : List Nat) (k : Nat), (wipeR ρ vs)[k]? = if k ∈ vs then ρ[k]?.map fun _ => Sl.no else ρ[k]?
  | [], k => by simp [wipeR]
  | v :: vs, k => by
    have len : ∀ vs : List Nat, (wipeR ρ vs).length = ρ.length := fun vs => by
      induction vs with
      | nil => rfl
      | cons v vs ih => rw [wipeR, List.length_set, ih]
    rw [wipeR, List.getElem?_set]
    by_cases h : v = k
    · subst h
      rw [if_pos rfl, if_pos (List.mem_cons_self ..), len]
      by_cases hl : v < ρ.length
      · rw [if_pos hl, List.getElem?_eq_getElem hl]
        rfl
      · rw [if_neg hl, List.getElem?_eq_none (Nat.le_of_not_lt hl)]
        rfl
    · rw [if_neg h, wipeR_at ρ vs k]
      have : (k ∈ v :: vs) ↔ (k ∈ vs) := by
        simp only [List.mem_cons]
        exact ⟨fun z => z.elim (fun q => absurd q.symm h) id, .inr⟩
      by_cases q : k ∈ vs
      · rw [if_pos q, if_pos (this.mpr q)]
      · rw [if_neg q, if_neg (fun z => q (this.mp z))]
theorem wipeR_len (ρ : Rho) : ∀ vs : List Nat, (wipeR ρ vs).length = ρ.length
  | [] => rfl
  | v :: vs => by rw [wipeR, List.length_set, wipeR_len ρ vs]
theorem RS.wipe {w : Wd} {σ : St} {ρ : Rho} (r : RS K w σ ρ) (vs : List Nat) : RS K w (wipe σ vs) (wipeR ρ vs) := by
  refine ⟨by rw [wipe_length, wipeR_len]; exact r.len, fun i d h => ?_, fun i ds h => ?_⟩
  · rw [wipeR_at] at h
    rw [wipe_at]
    by_cases q : i ∈ vs
    · rw [if_pos q] at h
      cases z : ρ[i]? with
      | none => rw [z] at h; cases h
      | some x => rw [z] at h; cases h
    · rw [if_neg q] at h ⊢
      exact r.val i d h
  · rw [wipeR_at] at h
    rw [wipe_at]
    by_cases q : i ∈ vs
    · rw [if_pos q] at h
      cases z : ρ[i]? with
      | none => rw [z] at h; cases h
      | some x => rw [z] at h; cases h
    · rw [if_neg q] at h ⊢
      exact r.acc i ds h
theorem RS.mono {w w' : Wd} {σ : St} {ρ : Rho} (r : RS K w σ ρ) (m : Mv w w') (hb : ∀ a vs, w.H a = some (.lst vs) → w.B a → w'.H a = some (.lst vs) ∧ w'.B a) : RS K w' σ ρ :=
  ⟨r.len, fun i d h => let ⟨v, h1, h2⟩ := r.val i d h; ⟨v, h1, h2.mono m⟩, fun i ds h => let ⟨a, vs, h1, h2, h3, h4⟩ := r.acc i ds h; let ⟨h5, h6⟩ := hb a vs h2 h4; ⟨a, vs, h1, h5, h3.mono m, h6⟩⟩
abbrev EvP := D → Rho → Option Rho
def pNm (i : Nat) : EvP := fun d ρ => match ρ[i]? with
  | some (.acc _) => none
  | some _ => some (ρ.set i (.val d))
  | none => none
def psNil : List D → Rho → Option Rho := fun ds ρ => match ds with
  | [] => some ρ
  | _ => none
def psCons (g : EvP) (h : List D → Rho → Option Rho) : List D → Rho → Option Rho := fun ds ρ => match ds with
  | d :: r => (g d ρ).bind fun ρ1 => h r ρ1
  | _ => none
def pTp (n : Nat) (h : List D → Rho → Option Rho) : EvP := fun d ρ => match d with
  | .tup ds => if ds.length = n then h ds ρ else none
  | _ => none
def SP (K : PySem.W.Frag) (g : TG) (vs : List Nat) (eg : EvP) : Prop := ∀ w σ ρ x d ρ', RS K w σ ρ → RV K w x d → eg d ρ = some ρ' → ∀ Q : St → Hp → Prop, (∀ σ', wipe σ' vs = wipe σ vs → RS K w σ' ρ' → Q σ' w.H) → g x σ w.H Q
def SPs (K : PySem.W.Frag) (g : TGs) (vs : List Nat) (eg : List D → Rho → Option Rho) : Prop := ∀ w σ ρ x d ρ', RS K w σ ρ → RVs K w x d → eg d ρ = some ρ' → ∀ Q : St → Hp → Prop, (∀ σ', wipe σ' vs = wipe σ vs → RS K w σ' ρ' → Q σ' w.H) → g x σ w.H Q
theorem sp_name {i : Nat} {vs : List Nat} (hv : i ∈ vs) : SP K (gName i) vs (pNm i) := fun w σ ρ x d ρ' r rx h Q k => by
  unfold pNm at h
  have fin : ∀ s, ρ[i]? = some s → (∀ ds, s ≠ .acc ds) → some (ρ.set i (.val d)) = some ρ' → gName i x σ w.H Q := fun s hs hn e => by
    cases e
    have hi : i < ρ.length := (List.getElem?_eq_some_iff.mp hs).1
    refine k _ (wipe_set hv) ⟨by rw [List.length_set, List.length_set]; exact r.len, fun j e h => ?_, fun j ds h => ?_⟩
    · by_cases q : i = j
      · subst q
        have z := (get_set_eq h).1
        cases z
        exact ⟨x, by rw [List.getElem?_set, if_pos rfl, if_pos (by rw [r.len]; exact hi)], rx⟩
      · rw [get_set_ne q] at h ⊢
        exact r.val j e h
    · by_cases q : i = j
      · subst q
        have z := (get_set_eq h).1
        cases z
      · rw [get_set_ne q] at h ⊢
        exact r.acc j ds h
  split at h
  · cases h
  · rename_i s hne hs
    exact fin s hs (fun ds z => hne ds z) h
  · cases h
theorem sps_nil {vs : List Nat} : SPs K gNil vs psNil := fun w σ ρ x d ρ' r rx h Q k => by
  unfold psNil at h
  split at h
  · cases h
    cases rx
    exact ⟨rfl, k σ rfl r⟩
  · cases h
theorem sps_cons {g : TG} {gs : TGs} {vs : List Nat} {eg : EvP} {egs : List D → Rho → Option Rho} (h1 : SP K g vs eg) (h2 : SPs K gs vs egs) : SPs K (gCons g gs) vs (psCons eg egs) := fun w σ ρ x d ρ' r rx h Q k => by
  unfold psCons at h
  split at h
  · obtain ⟨ρ1, q1, q2⟩ := bnd h
    cases rx with
    | cons r1 r2 =>
      refine ⟨_, _, rfl, h1 w σ ρ _ _ ρ1 r r1 q1 _ fun σ1 e1 s1 => ?_⟩
      exact h2 w σ1 ρ1 _ _ ρ' s1 r2 q2 Q fun σ2 e2 s2 => k σ2 (e2.trans e1) s2
  · cases h
theorem sp_tup {n : Nat} {gs : TGs} {vs : List Nat} {egs : List D → Rho → Option Rho} (h1 : SPs K gs vs egs) : SP K (gTup K n gs) vs (pTp n egs) := fun w σ ρ x d ρ' r rx h Q k => by
  unfold pTp at h
  split at h
  · split at h
    · rename_i hl
      cases rx with
      | tup q1 q2 q3 => exact ⟨_, _, rfl, SqT.of q1, by rw [q3.length]; exact hl, h1 w σ ρ _ _ ρ' r q3 h Q k⟩
    · cases h
  · cases h
def tYesE : EvT := fun _ S => some (true, S)
theorem st_yes : STt K G tYes tYesE := fun w σ ρ b S' o rs h Q k => by
  cases h
  exact k w rfl (Fr.refl w) o
def lcC (g : EvP) (t : EvT) (e : Ev) (ρ : Rho) : List D → Sto → Option (List D × Sto)
  | [], S => some ([], S)
  | d :: ds, S => (g d ρ).bind fun ρ1 => (t ρ1 S).bind fun b => if b.1 = true then (e ρ1 b.2).bind fun x => (lcC g t e ρ ds x.2).bind fun r => some (x.1 :: r.1, r.2) else lcC g t e ρ ds b.2
def fLc (it : EvL) (vs : List Nat) (g : EvP) (t : EvT) (e : Ev) : EvL := fun ρ S => (it ρ S).bind fun x => (lcC g t e (wipeR ρ vs) x.1 x.2).bind fun r => if r.1.length ≤ sizeLine then some r else none
theorem sf_lc {wi : TI} {ei : EvL} {g : TG} {eg : EvP} {tt : TT} {et : EvT} {te : TE} {ee : Ev} {vs : List Nat} (hi : SI K G wi ei) (hg : SP K g vs eg) (ht : STt K G tt et) (he : SE K G te ee) : SF K G (tLc wi g tt te vs) (fLc ei vs eg et ee) := fun w σ ρ res S' o rs h Q k => by
  obtain ⟨⟨ds, S1⟩, h1, h2⟩ := bnd h
  obtain ⟨⟨rr, S9⟩, h3, h4⟩ := bnd h2
  split at h4
  · rename_i hsz
    cases h4
    refine hi w σ ρ ds S1 o rs h1 _ fun J w1 e1 f1 o1 jk Da hD => ?_
    subst e1
    have rs1 := (rs.fr o f1).wipe vs
    have rsOf : ∀ wc : Wd, Fr w1 (wc.withB w1.B) → Mv w1 wc → (∀ a, wc.B a ↔ (w1.B a ∨ a = Da)) → RS K wc (wipe σ vs) (wipeR ρ vs) := fun wc fc mc bc =>
      rs1.mono mc fun a us z1 z2 => ⟨(fc.hp a _ z1 (o1.dis a z2)).1, (bc a).mpr (.inl z2)⟩
    -- the new list barred
    refine ⟨fun i m H => m = ds.length - i ∧ i ≤ ds.length ∧ ∃ wc av acc rest, wc.H = H ∧ Fr w1 (wc.withB w1.B) ∧ Mv w1 wc ∧ Ok K G wc ∧ (∀ a, wc.B a ↔ (w1.B a ∨ a = Da)) ∧ wc.H Da = some (.lst av) ∧ RVs K wc av acc ∧
      lcC eg et ee (wipeR ρ vs) (ds.drop i) wc.S = some (rest, S') ∧ acc ++ rest = res, ?_, ?_⟩
    · refine ⟨ds.length, by simp, Nat.zero_le _, ?_⟩
      -- the start: as for any new list
      let QQ : VK := fun v H => ∃ p, v = .ref p ∧ ∃ wc av acc rest, wc.H = H ∧ Fr w1 (wc.withB w1.B) ∧ Mv w1 wc ∧ Ok K G wc ∧ (∀ a, wc.B a ↔ (w1.B a ∨ a = p)) ∧ wc.H p = some (.lst av) ∧ RVs K wc av acc ∧
        lcC eg et ee (wipeR ρ vs) (ds.drop 0) wc.S = some (rest, S') ∧ acc ++ rest = res
      have kk : Kf K G w1 [] w1.S QQ := fun p us w' e' f' n' o' hp r' => by
        have m' : Mv w1 (w'.ban p) := ⟨f'.io, fun a u e q => by
          obtain ⟨h1, h2⟩ := f'.mv.hp a u e q
          refine ⟨h1, fun z => ?_⟩
          rcases z with (z | z) | z
          · exact h2 (.inl z)
          · rw [z, n'] at e
            cases e
          · exact h2 (.inr z), f'.fz⟩
        refine ⟨p, rfl, w'.ban p, us, [], res, rfl, ?_, m', o', fun a => by rw [← f'.bb]; exact Iff.rfl, hp, r', ?_, rfl⟩
        · exact ⟨f'.io, f'.hp, f'.fz, rfl⟩
        · rw [List.drop_zero]
          show lcC eg et ee (wipeR ρ vs) ds w'.S = _
          rw [e']
          exact h3
      have z : QQ (.ref Da) (upd w1.H Da (.lst [])) := Kf.new kk o1 .nil hD
      obtain ⟨p, e, z⟩ := z
      cases e
      exact z
    · rintro i m H ⟨rfl, hi', wc, av, acc, rest, rfl, fc, mc, oc, bc, hc, rc, lc, er⟩
      have rsc := rsOf wc fc mc bc
      obtain ⟨j1, j2⟩ := jk i wc mc oc
      by_cases hlt : i < ds.length
      · right
        have hd : ds[i]? = some ds[i] := List.getElem?_eq_getElem hlt
        obtain ⟨go, yl⟩ := j1 _ hd
        rw [List.drop_eq_getElem_cons hlt, lcC] at lc
        obtain ⟨ρ1, q1, lc⟩ := bnd lc
        obtain ⟨⟨b, S3⟩, q2, lc⟩ := bnd lc
        refine ⟨go, fun H' => ∃ wc' av acc rest, wc'.H = H' ∧ Fr w1 (wc'.withB w1.B) ∧ Mv w1 wc' ∧ Ok K G wc' ∧ (∀ a, wc'.B a ↔ (w1.B a ∨ a = Da)) ∧ wc'.H Da = some (.lst av) ∧ RVs K wc' av acc ∧
          lcC eg et ee (wipeR ρ vs) (ds.drop (i + 1)) wc'.S = some (rest, S') ∧ acc ++ rest = res, fun H' z => ⟨_, by omega, rfl, hlt, z⟩, fun x H' y => ?_⟩
        obtain ⟨w2, e2, eS, f2, o2, r2⟩ := yl x H' y
        subst e2
        have rs2 := rsc.fr oc f2
        refine hg w2 (wipe σ vs) (wipeR ρ vs) x _ ρ1 rs2 r2 q1 _ fun σ3 hw3 rs3 => ⟨by rw [hw3, wipe_wipe], ?_⟩
        refine ht w2 σ3 ρ1 b S3 o2 rs3 (by rw [eS]; exact q2) _ fun w3 e3 f3 o3 => ?_
        subst e3
        have f23 : Fr wc w3 := f2.trans f3
        have keepD : ∀ {w5 : Wd}, Fr wc w5 → w5.H Da = some (.lst av) := fun {w5} f5 => (f5.hp Da _ hc (oc.dis Da ((bc Da).mpr (.inr rfl)))).1
        have toFr : ∀ {w5 : Wd}, Fr wc w5 → Fr w1 (w5.withB w1.B) := fun {w5} f5 => ⟨fun l a e => f5.io l a (fc.io l a e), fun a u e q => let ⟨z1, z2⟩ := fc.hp a u e q; f5.hp a u z1 z2, fun a q u e => f5.fz a q u (fc.fz a q u e), rfl⟩
        cases b with
        | false =>
          rw [if_neg Bool.false_ne_true] at lc ⊢
          exact ⟨w3, av, acc, rest, rfl, toFr f23, mc.trans f23.mv, o3, fun a => by rw [f23.bb]; exact bc a, keepD f23, rc.mono f23.mv, lc, er⟩
        | true =>
          rw [if_pos rfl] at lc ⊢
          obtain ⟨⟨d5, S5⟩, q5, lc⟩ := bnd lc
          obtain ⟨⟨r6, S6⟩, q6, lc⟩ := bnd lc
          cases lc
          refine he w3 σ3 ρ1 d5 S5 o3 (rs3.fr o2 f3) q5 _ fun v5 w5 e5 f5 o5 r5 => ?_
          subst e5
          have f25 : Fr wc w5 := f23.trans f5
          have b5 : w5.B Da := by rw [f25.bb]; exact (bc Da).mpr (.inr rfl)
          obtain ⟨m6, o6⟩ := o5.updB (p := Da) (u := .lst (av ++ [v5])) b5 (fun q z y => by rw [keepD f25] at y; cases y)
          have lacc : acc.length < sizeLine := by
            have h5 := congrArg List.length er
            rw [List.length_append, List.length_cons] at h5
            have h6 : res.length ≤ sizeLine := hsz
            omega
          refine ⟨av, keepD f25, by rw [rc.length]; exact lacc, ?_⟩
          refine ⟨{ w5 with H := upd w5.H Da (.lst (av ++ [v5])) }, av ++ [v5], acc ++ [d5], r6, rfl, ?_, (mc.trans f25.mv).trans m6, o6, fun a => ?_, upd_same, ((rc.mono f25.mv).append (.one r5)).mono m6, q6, by rw [List.append_assoc]; exact er⟩
          · have t := toFr f25
            refine ⟨t.io, fun a u e q => ?_, fun a q u e => ?_, rfl⟩
            · obtain ⟨z1, z2⟩ := t.hp a u e q
              refine ⟨?_, z2⟩
              show upd w5.H Da _ a = some u
              rw [upd_ne (ne_of_none e hD)]
              exact z1
            · show upd w5.H Da _ a = some (.frz q u)
              rw [upd_ne (ne_of_none e hD)]
              exact t.fz a q u e
          · show w5.B a ↔ _
            rw [f25.bb]
            exact bc a
      · left
        have e : i = ds.length := by omega
        refine ⟨j2 e, ?_⟩
        rw [e, List.drop_length, lcC] at lc
        cases lc
        rw [List.append_nil] at er
        subst er
        refine k Da av (wc.withB w.B) rfl ?_ (f1.free' o1 hD) ?_ hc ?_
        · have t := f1.trans fc
          exact ⟨t.io, t.hp, t.fz, rfl⟩
        · exact oc.shrink (B := ((wc.withB w.B).ban Da).B) fun a z => (bc a).mpr (by
            rcases z with z | z
            · exact .inl (by rw [f1.bb]; exact z)
            · exact .inr z)
        · exact rc.mono (Mv.shrink (w := wc) (B := ((wc.withB w.B).ban Da).B) fun a z => (bc a).mpr (by
            rcases z with z | z
            · exact .inl (by rw [f1.bb]; exact z)
            · exact .inr z))
  · cases h4
end
end AH
set_option maxRecDepth 100000
set_option maxHeartbeats 2000000
namespace AH
open PySem L2 TL
def Wd.own (w : Wd) (p : Addr) (o : MO) : Wd := { w with io := fun l => if l = w.S.next then some p else w.io l, S := w.S.new o }
section
variable {K : PySem.W.Frag} {G : Gx}
theorem Fr.own {w0 w : Wd} {p : Addr} {o : MO} (f : Fr w0 w) (k : Ok K G (w.ban p)) (h0 : w0.H p = none) : Fr w0 (w.own p o) := ⟨fun l a e => by
  show (if l = w.S.next then some p else w.io l) = some a
  have e1 := f.io l a e
  rw [if_neg (fun q => by
    have z : w.io w.S.next = none := k.noio
    rw [q, z] at e1
    cases e1)]
  exact e1, fun a z e nu => by
  obtain ⟨h1, h2⟩ := f.hp a z e nu
  refine ⟨h1, fun ⟨l, q⟩ => ?_⟩
  have q' : (if l = w.S.next then some p else w.io l) = some a := q
  by_cases y : l = w.S.next
  · rw [if_pos y] at q'
    cases q'
    rw [h0] at e
    cases e
  · rw [if_neg y] at q'
    exact h2 ⟨l, q'⟩, f.fz, f.bb⟩
theorem own_mv {w : Wd} {p : Addr} {o : MO} (k : Ok K G (w.ban p)) : Mv (w.ban p) (w.own p o) := ⟨fun l a e => by
  show (if l = w.S.next then some p else w.io l) = some a
  have e1 : w.io l = some a := e
  rw [if_neg (fun q => by
    have z : w.io w.S.next = none := k.noio
    rw [q, z] at e1
    cases e1)]
  exact e1, fun a u e n => ⟨e, fun z => by
  rcases z with z | ⟨l, q⟩
  · exact n (.inl (.inl z))
  · have q' : (if l = w.S.next then some p else w.io l) = some a := q
    by_cases y : l = w.S.next
    · rw [if_pos y] at q'
      cases q'
      exact n (.inl (.inr rfl))
    · rw [if_neg y] at q'
      exact n (.inr ⟨l, q'⟩)⟩, fun _ _ _ e => e⟩
theorem Ok.own {w : Wd} {p : Addr} {ds : List D} {vs : List V} (k : Ok K G (w.ban p)) (h : w.H p = some (.lst vs)) (r : RVs K (w.ban p) vs ds) (hb : ¬ w.B p) : Ok K G (w.own p (.lst ds)) where
  obj := fun l o' e => by
    have e' : (if l = w.S.next then some (MO.lst ds) else w.S.get l) = some o' := e
    show ∃ a, (if l = w.S.next then some p else w.io l) = some a ∧ _
    by_cases q : l = w.S.next
    · rw [if_pos q] at e' ⊢
      cases e'
      exact ⟨p, rfl, vs, h, r.mono (own_mv k)⟩
    · rw [if_neg q] at e' ⊢
      obtain ⟨a, h1, h2⟩ := k.obj l o' e'
      exact ⟨a, h1, h2.mono (own_mv k) rfl⟩
  inj := fun l l' a e e' => by
    have q : (if l = w.S.next then some p else w.io l) = some a := e
    have q' : (if l' = w.S.next then some p else w.io l') = some a := e'
    have np : ∀ l, w.io l ≠ some p := fun l z => k.dis p (.inr rfl) ⟨l, z⟩
    by_cases z : l = w.S.next <;> by_cases z' : l' = w.S.next
    · rw [z, z']
    · rw [if_pos z] at q
      rw [if_neg z'] at q'
      cases q
      exact absurd q' (np _)
    · rw [if_neg z] at q
      rw [if_pos z'] at q'
      cases q'
      exact absurd q (np _)
    · rw [if_neg z] at q
      rw [if_neg z'] at q'
      exact k.inj l l' a q q'
  dom := fun l e => by
    have e' : (if l = w.S.next then some (MO.lst ds) else w.S.get l) = none := e
    show (if l = w.S.next then some p else w.io l) = none
    by_cases q : l = w.S.next
    · rw [if_pos q] at e'
      cases e'
    · rw [if_neg q] at e' ⊢
      exact k.dom l e'
  nxt := fun l e => by
    have e : w.S.next + 1 ≤ l := e
    show (if l = w.S.next then some (MO.lst ds) else w.S.get l) = none
    rw [if_neg (by omega)]
    exact k.nxt l (by show w.S.next ≤ l; omega)
  dis := fun a b ⟨l, q⟩ => by
    have q' : (if l = w.S.next then some p else w.io l) = some a := q
    by_cases z : l = w.S.next
    · rw [if_pos z] at q'
      cases q'
      exact hb b
    · rw [if_neg z] at q'
      exact k.dis a (.inl b) ⟨l, q'⟩
  bh := fun a b => k.bh a (.inl b)
  tb := fun a ps e => by
    obtain ⟨l, z⟩ := k.tb a ps e
    refine ⟨l, ?_⟩
    show (if l = w.S.next then some p else w.io l) = some a
    rw [if_neg (fun y => by
      have n : w.io w.S.next = none := k.noio
      have z : w.io l = some a := z
      rw [y, n] at z
      cases z)]
    exact z
  bx := fun a φ b => k.bx a φ (.inl b)
  ce := k.ce
def eOwn (a : EvL) : Ev := fun ρ S => (a ρ S).bind fun x => some (.ref x.2.next, x.2.new (.lst x.1))
theorem se_own {te : TE} {el : EvL} (h : SF K G te el) : SE K G te (eOwn el) := fun w σ ρ d S' o rs hh Q k => by
  obtain ⟨⟨ds, S1⟩, h1, h2⟩ := bnd hh
  cases h2
  refine h w σ ρ ds _ o rs h1 _ fun p vs w1 e1 f1 n1 o1 hp r1 => ?_
  subst e1
  have nb : ¬ w1.B p := fun z => by
    rw [f1.bb] at z
    obtain ⟨q, hq⟩ := o.bh p z
    rw [n1] at hq
    cases hq
  refine k (.ref p) (w1.own p (.lst ds)) rfl (Fr.own f1 o1 n1) (o1.own hp r1 nb) (.ref ?_)
  show (if w1.S.next = w1.S.next then some p else w1.io w1.S.next) = some p
  rw [if_pos rfl]
theorem Ok.list {w : Wd} {v : V} {l : Nat} {ds : List D} (o : Ok K G w) (r : RV K w v (.ref l)) (h : w.S.get l = some (.lst ds)) : ∃ a vs, v = .ref a ∧ w.io l = some a ∧ w.H a = some (.lst vs) ∧ RVs K w vs ds := by
  cases r with
  | ref h1 =>
    obtain ⟨a, q1, vs, q2, q3⟩ := o.obj l _ h
    rw [h1] at q1
    cases q1
    exact ⟨_, vs, rfl, h1, q2, q3⟩
theorem Ok.relist {w : Wd} {l : Nat} {a : Addr} {ds es : List D} {vs us : List V} (o : Ok K G w) (h : w.S.get l = some (.lst ds)) (hi : w.io l = some a) (hv : w.H a = some (.lst vs)) (r : RVs K w us es) :
    Fr w (w.put l (.lst es) a (.lst us)) ∧ Ok K G (w.put l (.lst es) a (.lst us)) := by
  have nf : ∀ q z, w.H a ≠ some (.frz q z) := fun q z y => by
    rw [hv] at y
    cases y
  have f := Fr.put (o := .lst es) (u := .lst us) hi nf
  exact ⟨f, o.put h hi nf ⟨us, upd_same, r.mono f.mv⟩⟩
/-- o[i] = v, a list of the store -/
def gSb (eo ei : Ev) : EvG := fun d ρ S => (eo ρ S).bind fun x => (ei ρ x.2).bind fun y => match x.1, y.1 with
  | .ref l, .int i => match y.2.get l with
    | some (.lst ds) => (ixN ds.length i).bind fun j => some (ρ, y.2.set l (.lst (ds.set j d)))
    | _ => none
  | _, _ => none
theorem sg_sub {to ti : TE} {eo ei : Ev} (ho : SE K G to eo) (hi : SE K G ti ei) : SG K G (gSub to ti rSetL) (gSb eo ei) := fun w0 w σ ρ x d ρ' S' s r h Q k => by
  obtain ⟨⟨dx, S1⟩, h1, h2⟩ := bnd h
  obtain ⟨⟨dy, S2⟩, h3, h4⟩ := bnd h2
  refine ho w σ ρ dx S1 s.ok s.rs h1 _ fun ov w1 e1 f1 o1 r1 => ?_
  subst e1
  have s1 := s.step f1 o1
  refine hi w1 σ ρ dy S2 s1.ok s1.rs h3 _ fun iv w2 e2 f2 o2 r2 => ?_
  subst e2
  have s2 := s1.step f2 o2
  dsimp only at h4
  split at h4
  · rename_i l i
    split at h4
    · rename_i ds hl
      obtain ⟨j, h5, h6⟩ := bnd h4
      cases h6
      cases r2
      obtain ⟨a, vs, rfl, q1, q2, q3⟩ := o2.list (r1.mono f2.mv) hl
      obtain ⟨f3, o3⟩ := o2.relist hl q1 q2 (q3.set (r.mono (f1.trans f2).mv) j)
      exact ⟨a, vs, i, j, rfl, rfl, q2, by rw [q3.length]; exact h5, k σ (w2.put l (.lst (ds.set j d)) a (.lst (vs.set j x))) rfl ((f1.trans f2).trans f3).mv (s2.step f3 o3)⟩
    · cases h4
  · cases h4
/-- methods of the store's lists -/
def fPopAt (a : D) (bs : List D) (S : Sto) : Option (D × Sto) := match a, bs with
  | .ref l, [.int i] => if 0 ≤ i then match S.get l with
    | some (.lst ds) => (ds[i.toNat]?).bind fun d => if ds.length ≤ sizeLine then some (d, S.set l (.lst (ds.eraseIdx i.toNat))) else none
    | _ => none
    else none
  | _, _ => none
def fAppend (a : D) (bs : List D) (S : Sto) : Option (D × Sto) := match a, bs with
  | .ref l, [d] => match S.get l with
    | some (.lst ds) => if ds.length < sizeLine then some (.non, S.set l (.lst (ds ++ [d]))) else none
    | _ => none
  | _, _ => none
def fClear (a : D) (bs : List D) (S : Sto) : Option (D × Sto) := match a, bs with
  | .ref l, [] => match S.get l with
    | some (.lst ds) => some (.non, S.set l (.lst []))
    | _ => none
  | _, _ => none
theorem sm_popAt : SM K G rPopAt fPopAt := fun w x dx xs ds d S' o rx r hh Q k => by
  unfold fPopAt at hh
  split at hh
  · split at hh
    · rename_i l i h0
      split at hh
      · rename_i es hl
        obtain ⟨y, h1, h2⟩ := bnd hh
        split at h2
        · rename_i hz
          cases h2
          obtain ⟨v, rfl, r1⟩ := r.one_of
          cases r1
          obtain ⟨a, vs, rfl, q1, q2, q3⟩ := o.list rx hl
          obtain ⟨u, q4, q5⟩ := q3.get h1
          have lt : i.toNat < es.length := (List.getElem?_eq_some_iff.mp h1).1
          have hs : sizeLine = 16777216 := sizeLine_eq
          obtain ⟨f3, o3⟩ := o.relist hl q1 q2 (q3.eraseIdx i.toNat)
          refine ⟨a, vs, i, i.toNat, u, rfl, rfl, q2, by omega, by omega, ?_, q4, k _ (w.put l (.lst (es.eraseIdx i.toNat)) a (.lst (vs.eraseIdx i.toNat))) rfl f3 o3 (q5.mono f3.mv)⟩
          have hx : ixN vs.length i = some i.toNat := by
            unfold ixN
            rw [q3.length, if_pos h0, if_pos (by omega)]
          exact (ixN_seq hx).1
        · cases h2
      · cases hh
    · cases hh
  · cases hh
theorem sm_append : SM K G rAppend fAppend := fun w x dx xs ds d S' o rx r hh Q k => by
  unfold fAppend at hh
  split at hh
  · split at hh
    · rename_i l d' _ es hl
      split at hh
      · rename_i hz
        cases hh
        obtain ⟨v, rfl, r1⟩ := r.one_of
        obtain ⟨a, vs, rfl, q1, q2, q3⟩ := o.list rx hl
        obtain ⟨f3, o3⟩ := o.relist hl q1 q2 (q3.append (.one r1))
        exact ⟨a, vs, v, rfl, rfl, q2, by rw [q3.length]; exact hz, k _ (w.put l (.lst (es ++ [d'])) a (.lst (vs ++ [v]))) rfl f3 o3 .non⟩
      · cases hh
    · cases hh
  · cases hh
/-- a method of a list -/
theorem tyV_of {w : Wd} {v : V} {l : Nat} (o : Ok K G w) (r : RV K w v (.ref l)) {ds : List D} (h : w.S.get l = some (.lst ds)) : tyV K "list" v w.H := by
  obtain ⟨a, vs, rfl, q1, q2, q3⟩ := o.list r h
  exact ty_list q2
def eBM (f : D → List D → Sto → Option (D × Sto)) (eo : Ev) (el : EvL) : Ev := fun ρ S => (eo ρ S).bind fun x => match x.1 with
  | .ref l => match x.2.get l with
    | some (.lst _) => (el ρ x.2).bind fun y => f x.1 y.1 y.2
    | _ => none
  | _ => none
theorem se_bm {r : V → List V → Hp → VK → Prop} {f : D → List D → Sto → Option (D × Sto)} {to : TE} {ta : TA} {eo : Ev} {el : EvL} (hr : SM K G r f) (ho : SE K G to eo) (ha : SA K G ta el) : SE K G (tBM K "list" r to ta) (eBM f eo el) := fun w σ ρ d S' o rs h Q k => by
  obtain ⟨⟨dx, S1⟩, h1, h2⟩ := bnd h
  refine ho w σ ρ dx S1 o rs h1 _ fun x w1 e1 f1 o1 r1 => ?_
  subst e1
  dsimp only at h2
  split at h2
  · rename_i l
    split at h2
    · rename_i es hl
      obtain ⟨⟨ds, S2⟩, h3, h4⟩ := bnd h2
      refine ⟨tyV_of o1 r1 hl, ha w1 σ ρ ds S2 o1 (rs.fr o f1) h3 _ fun xs w2 e2 f2 o2 r2 => ?_⟩
      subst e2
      exact hr w2 x _ xs ds d S' o2 (r1.mono f2.mv) r2 h4 Q (Kd.from k (f1.trans f2))
    · cases h2
  · cases h2
inductive Out where
  | v (d : D) | f (ds : List D)
abbrev Fn := List D → Sto → Option (Out × Sto)
def KO (K : PySem.W.Frag) (G : Gx) (w : Wd) (o : Out) (S' : Sto) (Q : VK) : Prop := match o with
  | .v d => Kd K G w d S' Q
  | .f ds => Kf K G w ds S' Q
def spOf (K : PySem.W.Frag) (G : Gx) (n : Nat) (F : Fn) : Sp := fun vs H Q _ => ∃ (w : Wd) (ds : List D) (o : Out) (S' : Sto), w.H = H ∧ vs.length = n ∧ Ok K G w ∧ RVs K w vs ds ∧ F ds w.S = some (o, S') ∧ KO K G w o S' Q
def rho0 (m : Nat) (ds : List D) : Rho := ds.map Sl.val ++ List.replicate (m - ds.length) Sl.no
def runB (n m : Nat) (b : EvS) : Fn := fun ds S => if ds.length = n then match b (rho0 m ds) S with
  | some (.nx, _, S') => some (.v .non, S')
  | some (.rt d, _, S') => some (.v d, S')
  | some (.rf ds, _, S') => some (.f ds, S')
  | _ => none
  else none
theorem runB_len {n m : Nat} {b : EvS} : ∀ ds S r, runB n m b ds S = some r → ds.length = n := fun ds S r h => by
  unfold runB at h
  split at h
  · rename_i e
    exact e
  · cases h
theorem rho0_rs {w : Wd} {N : List Str} {vs : List V} {ds : List D} (r : RVs K w vs ds) (hl : ds.length ≤ N.length) : RS K w (L2.start N vs) (rho0 N.length ds) := by
  have e := r.length
  have hi : ∀ (i : Nat) (s : Sl), (rho0 N.length ds)[i]? = some s → (∀ d, s = .val d → ds[i]? = some d) ∧ ∀ es, s ≠ .acc es := fun i s h => by
    unfold rho0 at h
    by_cases q : i < ds.length
    · rw [List.getElem?_append_left (by rw [List.length_map]; exact q), List.getElem?_map] at h
      cases z : ds[i]? with
      | none => rw [z] at h; cases h
      | some d =>
        rw [z] at h
        cases h
        exact ⟨fun d' e' => by cases e'; rfl, fun es z => by cases z⟩
    · rw [List.getElem?_append_right (by rw [List.length_map]; omega), List.getElem?_replicate] at h
      split at h
      · cases h
        exact ⟨fun d' e' => (by cases e'), fun es z => (by cases z)⟩
      · cases h
  refine ⟨?_, fun i d h => ?_, fun i es h => absurd rfl ((hi i _ h).2 es)⟩
  · unfold L2.start rho0
    simp [e]
  · have hd := (hi i _ h).1 d rfl
    obtain ⟨v, h1, h2⟩ := r.get hd
    refine ⟨v, ?_, h2⟩
    unfold L2.start
    have lt : i < vs.length := (List.getElem?_eq_some_iff.mp h1).1
    rw [List.getElem?_append_left (by rw [List.length_map]; exact lt), List.getElem?_map, h1]
    rfl
theorem rho0_acc {N : Nat} {ds : List D} {i : Nat} {es : List D} : (rho0 N ds)[i]? ≠ some (.acc es) := fun h => by
  unfold rho0 at h
  by_cases q : i < ds.length
  · rw [List.getElem?_append_left (by rw [List.length_map]; exact q), List.getElem?_map] at h
    cases z : ds[i]? with
    | none => rw [z] at h; cases h
    | some d => rw [z] at h; cases h
  · rw [List.getElem?_append_right (by rw [List.length_map]; omega), List.getElem?_replicate] at h
    split at h <;> cases h
/-- a body does what its run says -/
theorem body_ok {N : List Str} {n : Nat} {t : TS} {b : EvS} (hs : SS K G t b) {vs : List V} {H : Hp} {Q : VK} {E : XK} (hn : n ≤ N.length) (h : spOf K G n (runB n N.length b) vs H Q E) : t { nx := fun _ H' => Q .non H', rt := Q } (L2.start N vs) H := by
  obtain ⟨w, ds, o, S', rfl, hl, ok, r, hh, k⟩ := h
  unfold runB at hh
  split at hh
  · rename_i hd
    have sr : SR K G w w (L2.start N vs) (rho0 N.length ds) :=
      ⟨ok, rho0_rs r (by omega), fun _ _ e => e, fun _ _ e n => ⟨e, n⟩, fun _ _ _ e => e, fun a => ⟨.inl, fun z => z.elim id fun ⟨i, es, z, _⟩ => absurd z rho0_acc⟩, fun a ⟨i, es, z, _⟩ => absurd z rho0_acc, fun i j es fs a z => absurd z rho0_acc, ok.bh⟩
    cases e : b (rho0 N.length ds) w.S with
    | none => rw [e] at hh; cases hh
    | some z =>
      obtain ⟨fl, ρ', S1⟩ := z
      rw [e] at hh
      refine hs w w _ _ fl ρ' S1 sr e _ ?_
      cases fl with
      | nx =>
        cases hh
        intro σ' w' e' m s
        obtain ⟨q1, q2, q3⟩ := s.out
        exact k .non (w'.withB w.B) e' q1 q2 .non
      | rt d =>
        cases hh
        exact fun v w' e' f o r => k v w' e' f o r
      | rf es =>
        cases hh
        exact fun p us w' e' f n o hp r => k p us w' e' f n o hp r
      | bk => cases hh
      | ct => cases hh
  · cases hh
def callE (F : Fn) (ds : List D) (S : Sto) : Option (D × Sto) := (F ds S).bind fun r => match r.1 with
  | .v d => some (d, r.2)
  | .f es => some (.lst es, r.2)
def callF (F : Fn) (ds : List D) (S : Sto) : Option (List D × Sto) := (F ds S).bind fun r => match r.1 with
  | .v _ => none
  | .f es => some (es, r.2)
theorem se_call {n : Nat} {F : Fn} {ta : TA} {el : EvL} {E : XK} (hn : ∀ ds S r, F ds S = some r → ds.length = n) (ha : SA K G ta el) : SE K G (tCall (spOf K G n F) [] E ta) (eN (callE F) el) := fun w σ ρ d S' o rs h Q k => by
  obtain ⟨⟨ds, S1⟩, h1, h2⟩ := bnd h
  refine ha w σ ρ ds S1 o rs h1 _ fun vs w1 e1 f1 o1 r1 => ?_
  subst e1
  obtain ⟨⟨r, S2⟩, h3, h4⟩ := bnd h2
  rw [List.append_nil]
  refine ⟨w1, ds, r, S2, rfl, by rw [r1.length]; exact hn _ _ _ h3, o1, r1, h3, ?_⟩
  cases r with
  | v d' => cases h4; exact Kd.from k f1
  | f es => cases h4; exact Kf.of (Kd.from k f1) o1
end
end AH
namespace AH
open PySem L2 TL
section
variable {K : PySem.W.Frag} {G : Gx}
theorem rv_str {z : Str} {c : List Nat} (h : z = ⟨c.toArray⟩) (w : Wd) : RV K w (.str z) (.str c) := by
  rw [h]
  exact .str
theorem rv_int {i : Int} (w : Wd) : RV K w (.int i) (.int i) := .int
theorem rv_bl {i : Bool} (w : Wd) : RV K w (.bl i) (.bl i) := .bl
theorem rv_non (w : Wd) : RV K w .non .non := .non
theorem rv_raw {v : V} (w : Wd) : RV K w v (.raw v) := .raw
def S1 (K : PySem.W.Frag) (G : Gx) (r : V → Hp → VK → Prop) (f : D → Sto → Option (D × Sto)) : Prop := ∀ w x dx d S', Ok K G w → RV K w x dx → f dx w.S = some (d, S') → ∀ Q, Kd K G w d S' Q → r x w.H Q
theorem se_un {r : V → Hp → VK → Prop} {f : D → Sto → Option (D × Sto)} {ta : TE} {ea : Ev} (hr : S1 K G r f) (ha : SE K G ta ea) : SE K G (tUn r ta) (e1 f ea) := fun w σ ρ d S' o rs h Q k => by
  obtain ⟨⟨dx, S1⟩, h1, h2⟩ := bnd h
  refine ha w σ ρ dx S1 o rs h1 _ fun x w1 e1 f1 o1 r1 => ?_
  subst e1
  exact hr w1 x dx d S' o1 r1 h2 Q (Kd.from k f1)
theorem s1_neg : S1 K G (rU fun i => .int (-i)) fNeg := fun w x dx d S' o rx hh Q k => by
  unfold fNeg at hh
  split at hh
  · cases hh
    cases rx
    exact ⟨_, rfl, Kd.now k o .int⟩
  · cases hh
/-- nothing is promised -/
theorem fn_none {P : Program} {w : World} {mg : Str → Option Value} {base : Heap} {k : Nat} {f : Addr} {fd : FuncData} {ps : List Str} : FnOk P w K mg base CX0 k f fd ps (spOf K G ps.length fun _ _ => none) :=
  ⟨fun vs H Q E h => (let ⟨_, _, _, _, _, hl, _⟩ := h; hl), fun A outer s H args us vs Q E hr e0 hb r h => (let ⟨_, _, _, _, _, _, _, _, hh, _⟩ := h; nomatch hh)⟩
theorem sp_len {n : Nat} {F : Fn} : ∀ (vs : List V) (H : Hp) (Q : VK) (E : XK), spOf K G n F vs H Q E → vs.length = n := fun vs H Q E h => let ⟨_, _, _, _, _, hl, _⟩ := h; hl
end
end AH
set_option maxRecDepth 100000
set_option maxHeartbeats 2000000
namespace AH
open PySem L2 TL PySem.Spec PyProof.Rows
section
variable {X : Cx}
theorem opAdd (K : PySem.W.Frag) (h : X.K = K := by rfl) : OpR X (binaryOp .Add) (rAddAny K) := by subst h; exact op_addAny
theorem opEq (K : PySem.W.Frag) (hu : X.A.units + 64 < cLine) (h : X.K = K := by rfl) : OpR X (compareOp .Eq) (rEqAny K) := by subst h; exact op_eqAny hu
theorem opNe (K : PySem.W.Frag) (hu : X.A.units + 64 < cLine) (h : X.K = K := by rfl) : OpR X (compareOp .NotEq) (rNeAny K) := by subst h; exact op_neAny hu
theorem opNotIn (K : PySem.W.Frag) (h : X.K = K := by rfl) : OpR X (compareOp .NotIn) (rIn K true) := by subst h; exact op_notIn_seq
theorem ixSeq (K : PySem.W.Frag) (h : X.K = K := by rfl) : IxR X (rIx K) := by subst h; exact ix_seq
theorem slAny (K : PySem.W.Frag) (h : X.K = K := by rfl) : SlR X (rSlAny K) := by subst h; exact sl_any
theorem slList (K : PySem.W.Frag) (h : X.K = K := by rfl) : SlR X (rSlL K) := by subst h; exact sl_list
theorem callLen (K : PySem.W.Frag) (h : X.K = K := by rfl) : CallR X (.builtin "len") (rLenAny K) := by subst h; exact call_len
theorem callList (K : PySem.W.Frag) (h : X.K = K := by rfl) : CallR X (.type "list") (rListOfR K) := by subst h; exact call_list_of
theorem callIsi (K : PySem.W.Frag) (h : X.K = K := by rfl) : CallR X (.builtin "isinstance") (rIsi K) := by subst h; exact call_isi
def rJoinR (K : PySem.W.Frag) : V → List V → Hp → VK → Prop := fun x xs H Q => ∃ a p, ∃ ys : List Str, x = .str a ∧ xs = [.ref p] ∧ (SqL K H p (ys.map V.str) ∨ SqT K H p (ys.map V.str)) ∧ (ys.map (·.length)).sum + ys.length * a.length ≤ 16777216 ∧ Q (.str (Txt.join a ys)) H
theorem piList (K : PySem.W.Frag) {tg l : Expr} {tl : TE} (hl : PE X l tl) (h : X.K = K := by rfl) : PI X tg l (iList K tl) := by subst h; exact pi_list hl
theorem piTup (K : PySem.W.Frag) {tg l : Expr} {tl : TE} (hl : PE X l tl) (h : X.K = K := by rfl) : PI X tg l (iTup K tl) := by subst h; exact pi_tup hl
theorem pgTup (K : PySem.W.Frag) {es : List Expr} {k : Nat} {t : TGs} {n : Nat} {pos : Pos} (hc : X.calm = true) (hs : PGs X es t)
    (hn : (assignEach es X.env).length = n := by rfl) (hst : (assignEach es X.env).findIdx? (·.1) = none := by rfl) (h : X.K = K := by rfl) : PG X (.Tuple es k pos) (gTup K n t) := by subst h; exact pg_tup hc hs hn hst
theorem peBm (K : PySem.W.Frag) {T : String} {name : Str} {id : String} {o e : Expr} {es : List Expr} {to : TE} {t : TA} {r : V → List V → Hp → VK → Prop} {apos pos : Pos} (pa : PlainAttrs T) (slot : Slot T name id) (hty : typeOf (.builtin id) = pure (.type "method_descriptor")) (hm : MtR X id r) (ho : PE X o to) (ha : PA X (e :: es) t)
    (hbase : attributeBase o name X.env (eval o X.env) = eval o X.env := by rfl)
    (hfew : ((backTo pos (starEach (e :: es) X.env)).all (fun x => !x.1) && (backToKw pos (keywordEach [] X.env)).all (fun x => x.1.isSome)
      && decide ((e :: es).length + ([] : List Keyword).length + (if ([] : List Keyword).isEmpty then 0 else 1) < 30)) = true := by rfl)
    (hline : (apos.endLine == pos.line) = true := by rfl) (hs : starEach (e :: es) X.env = (false, eval e X.env) :: starEach es X.env := by rfl) (hplain : (backTo pos (starEach es X.env)).any (·.1) = false := by rfl) (h : X.K = K := by rfl) :
    PE X (.Call (.Attribute o name apos) (e :: es) [] pos) (tBM K T r to t) := by subst h; exact pe_bm pa slot hty hm ho ha hbase hfew hline hs hplain
theorem peFld (K : PySem.W.Frag) {e : Expr} {ta : TE} {f : Str} {pos : Pos} (he : PE X e ta) (hb : attributeBase e f X.env (eval e X.env) = eval e X.env := by rfl) (h : X.K = K := by rfl) : PE X (.Attribute e f pos) (tFld K ta f) := by subst h; exact pe_fld he hb
end
end AH
set_option maxRecDepth 100000
set_option maxHeartbeats 2000000
namespace AH
open PySem L2 TL PySem.Spec PyProof.Rows PySem.Builtin.Str
section
variable {K : PySem.W.Frag} {G : Gx}
def fRev (a : D) (S : Sto) : Option (D × Sto) := match a with
  | .str z => if z.length ≤ sizeLine then some (.str z.reverse, S) else none
  | _ => none
def eRev (a : Ev) : Ev := e1 fRev a
end
end AH
set_option maxRecDepth 100000
set_option maxHeartbeats 2000000
namespace AH
open PySem L2 TL PySem.Spec PyProof.Rows
/-- what a key finds -/
def kGet (kvs : Kvs) (c : List Nat) : Option Int := match kvs with
  | [] => none
  | q :: r => if q.1 = c then some q.2 else kGet r c
structure KT (K : PySem.W.Frag) (w : World) (a : Addr) (kvs : Kvs) : Prop where
  dict : ∃ es n, KDict K w a es n
  val : ∀ c : List Nat, ∃ r, PySem.W.nsIn K a ⟨c.toArray⟩ = some r ∧ match kGet kvs c with
    | none => r = none
    | some i => ∃ t, r = some (.int i t)
theorem ent_lit {P : Params} : ∀ {l : List DictEntry} {kvs : Kvs}, l.map entI = kvX P kvs → PySem.W.KeysLit P l ∧ (∀ e ∈ l, e.refKey = false) ∧ ∀ c : List Nat, (match kGet kvs c with
    | none => l.find? (·.key.isStr ⟨c.toArray⟩) = none
    | some i => ∃ e t, l.find? (·.key.isStr ⟨c.toArray⟩) = some e ∧ e.val = .int i t)
  | [], [], _ => ⟨trivial, fun e h => (nomatch h), fun c => rfl⟩
  | [], _ :: _, h => by cases h
  | _ :: _, [], h => by cases h
  | e :: r, q :: kvs, h => by
    have h1 : entI e :: r.map entI = some (⟨q.1.toArray⟩, PyData.keyHash P ⟨q.1.toArray⟩, q.2) :: kvX P kvs := h
    injection h1 with h2 h3
    obtain ⟨i1, i2, i3⟩ := ent_lit h3
    obtain ⟨eh, ek, ev⟩ := e
    cases ek with
    | str x t =>
      cases ev with
      | int i u =>
        have h4 := Option.some.inj (show some (x, eh, i) = some (⟨q.1.toArray⟩, PyData.keyHash P ⟨q.1.toArray⟩, q.2) from h2)
        obtain ⟨h5, h6⟩ := Prod.mk.inj h4
        obtain ⟨h7, h8⟩ := Prod.mk.inj h6
        refine ⟨⟨⟨x, t, rfl, by rw [h5]; exact h7⟩, i1⟩, fun e he => ?_, fun c => ?_⟩
        · rcases List.mem_cons.mp he with he | he
          · rw [he]
            rfl
          · exact i2 e he
        · unfold kGet
          by_cases hq : q.1 = c
          · rw [if_pos hq]
            refine ⟨⟨eh, .str x t, .int i u⟩, u, ?_, by rw [h8]⟩
            rw [List.find?_cons_of_pos]
            show (x == (⟨c.toArray⟩ : Str)) = true
            rw [h5, hq]
            exact beq_self_eq_true _
          · rw [if_neg hq]
            have hne : ((⟨eh, .str x t, .int i u⟩ : DictEntry).key.isStr ⟨c.toArray⟩) = false := by
              show (x == (⟨c.toArray⟩ : Str)) = false
              rw [h5]
              refine beq_eq_false_iff_ne.mpr fun z => hq ?_
              exact (str_eq (a := q.1) (b := c)).mp z
            have := i3 c
            rw [List.find?_cons_of_neg (by rw [hne]; exact Bool.false_ne_true)]
            exact this
      | _ => cases h2
    | _ => cases ev <;> cases h2
theorem dicX_ok {K : PySem.W.Frag} {w : World} {a : Addr} {kvs : Kvs} (h : dicX K a = some (kvX w.params kvs)) : KT K w a kvs := by
  unfold dicX at h
  cases q : K.lookup a with
  | none =>
    rw [q] at h
    cases h
  | some o =>
    obtain ⟨oc, od, dt, osl⟩ := o
    rw [q] at h
    cases oc with
    | type c =>
      cases od with
      | none =>
        cases dt with
        | dict es n =>
          have h1 : (match decide (c = "dict") && (osl.isEmpty && !(a == sysModules)) with
            | true => some (es.toList.map entI)
            | false => none) = some (kvX w.params kvs) := h
          cases z : decide (c = "dict") && (osl.isEmpty && !(a == sysModules)) with
          | false =>
            rw [z] at h1
            cases h1
          | true =>
            rw [z] at h1
            obtain ⟨z1, z2⟩ := He.ba z
            obtain ⟨z3, z4⟩ := He.ba z2
            have e1 : c = "dict" := of_decide_eq_true z1
            have e2 : osl = #[] := Array.isEmpty_iff.mp z3
            have e3 : (a == sysModules) = false := by
              cases y : a == sysModules with
              | false => rfl
              | true =>
                rw [y] at z4
                cases z4
            subst e1 e2
            obtain ⟨i1, i2, i3⟩ := ent_lit (Option.some.inj h1)
            refine ⟨⟨es, n, q, i1, e3⟩, fun c => ?_⟩
            have i := i3 c
            unfold PySem.W.nsIn
            rw [q]
            dsimp only
            cases g : kGet kvs c with
            | none =>
              rw [g] at i
              rw [i]
              have na : es.toList.any (·.refKey) = false := by
                rw [List.any_eq_false]
                intro e he
                rw [i2 e he]
                exact Bool.false_ne_true
              rw [na]
              exact ⟨none, rfl, rfl⟩
            | some j =>
              rw [g] at i
              obtain ⟨e, t, g1, g2⟩ := i
              rw [g1]
              exact ⟨some e.val, rfl, t, by rw [g2]⟩
        | _ => cases h
      | some b => cases dt <;> cases h
    | _ => cases od <;> cases dt <;> cases h
theorem SaysX.tab {fa : List He.Fa} {fn : List He.DefD} {ts : List TabX} {w : World} {K : PySem.W.Frag} (c : SaysX fa fn ts w K) (i : Nat) {t : TabX} (h : ts[i]? = some t := by rfl) : KT K w (He.ga K t.1) t.2 := by
  have e : ts.map (fun t => dicX K (He.ga K t.1)) = ts.map fun t => some (kvX w.params t.2) := congrArg (fun z : AlX => z.2) c
  have e2 : (ts.map fun t => dicX K (He.ga K t.1))[i]? = (ts.map fun t => some (kvX w.params t.2))[i]? := by rw [e]
  rw [List.getElem?_map, List.getElem?_map, h] at e2
  exact dicX_ok (Option.some.inj e2)
end AH
set_option maxRecDepth 100000
set_option maxHeartbeats 2000000
namespace AH
open PySem L2 TL Classical
def JOKP (K : PySem.W.Frag) (G : Gx) (J : It) (w1 : Wd) (ds : List D) (pre : Sto → Prop) : Prop := ∀ (i : Nat) (w : Wd), Mv w1 w → Ok K G w → pre w.S →
  (∀ d, ds[i]? = some d → J.go i w.H ∧ ∀ x H', J.yld i w.H x H' → ∃ w2, w2.H = H' ∧ w2.S = w.S ∧ Fr w w2 ∧ Ok K G w2 ∧ RV K w2 x d) ∧ (i = ds.length → J.stop i w.H)
noncomputable def forLP (pre : Sto → Prop) (g : EvG) (b : EvS) : List D → EvS
  | [], ρ, S => if pre S then some (.nx, ρ, S) else none
  | d :: ds, ρ, S => if pre S then match g d ρ S with
    | none => none
    | some (ρ1, S1) => match b ρ1 S1 with
      | some (.nx, ρ2, S2) => forLP pre g b ds ρ2 S2
      | some (.ct, ρ2, S2) => forLP pre g b ds ρ2 S2
      | some (.bk, ρ2, S2) => some (.nx, ρ2, S2)
      | r => r
    else none
theorem forLP_pre {pre : Sto → Prop} {g : EvG} {b : EvS} {ds : List D} {ρ : Rho} {S : Sto} {r : Fl × Rho × Sto} (h : forLP pre g b ds ρ S = some r) : pre S := by
  cases ds <;> (unfold forLP at h; split at h; assumption; cases h)
def onLst {α : Type} (x : D × Sto) (f : (Sto → Prop) → List D → Sto → Option α) : Option α := match x.1 with
  | .lst ds => f (fun _ => True) ds x.2
  | .ref l => match x.2.get l with
    | some (.lst ds) => f (fun S => S.get l = some (.lst ds)) ds x.2
    | _ => none
  | _ => none
noncomputable def sForR (e : Ev) (g : EvG) (b : EvS) : EvS := fun ρ S => (e ρ S).bind fun x => onLst x fun pre ds S1 => forLP pre g b ds ρ S1
section
variable {K : PySem.W.Frag} {G : Gx}
theorem jokp_list {w1 : Wd} {l : Nat} {a : Addr} (h : w1.io l = some a) (ds : List D) : JOKP K G (Itl K a) w1 ds fun S => S.get l = some (.lst ds) := fun i w m o p => by
  obtain ⟨b, q1, vs, q2, q3⟩ := o.obj l _ p
  have e : a = b := by
    have := (m.io l a h).symm.trans q1
    exact Option.some.inj this
  subst e
  refine ⟨fun d hd => ?_, fun e => ⟨vs, SqL.of q2, by rw [q3.length, e]; exact Nat.le_refl _⟩⟩
  obtain ⟨v, h1, h2⟩ := q3.get hd
  refine ⟨⟨vs, v, SqL.of q2, h1⟩, fun x H' y => ?_⟩
  obtain ⟨y1, y2⟩ := y
  subst y1
  have z := y2 vs (SqL.of q2)
  rw [h1] at z
  cases z
  exact ⟨w, rfl, rfl, Fr.refl w, o, h2⟩
theorem onLst_is {α : Type} {x : D × Sto} {f : (Sto → Prop) → List D → Sto → Option α} {r : α} (h : onLst x f = some r) : ∃ pre ds, f pre ds x.2 = some r ∧ ∀ (w : Wd) (v : V), w.S = x.2 → Ok K G w → RV K w v x.1 → ∃ a, v = .ref a ∧ (∃ xs, SqL K w.H a xs) ∧ JOKP K G (Itl K a) w ds pre := by
  unfold onLst at h
  split at h
  · rename_i ds e
    refine ⟨_, ds, h, fun w v eS o r => ?_⟩
    rw [e] at r
    cases r with
    | lst q1 q2 q3 => exact ⟨_, rfl, ⟨_, SqL.of q1⟩, fun i w' m o' _ => jok_list q1 q2 q3 i w' m o'⟩
  · rename_i l e
    split at h
    · rename_i ds g
      refine ⟨_, ds, h, fun w v eS o r => ?_⟩
      rw [e] at r
      rw [← eS] at g
      obtain ⟨a, vs, rfl, i1, q1, q2⟩ := o.list r g
      exact ⟨a, rfl, ⟨vs, SqL.of q1⟩, jokp_list i1 ds⟩
    · cases h
  · cases h
theorem forLP_ok {g : TG} {eg : EvG} {tb : TS} {eb : EvS} (hg : SG K G g eg) (hb : SS K G tb eb) {w0 w1 : Wd} {J : It} {ds : List D} {pre : Sto → Prop} (jk : JOKP K G J w1 ds pre) {σ : St} {ρ : Rho} {f : Fl} {ρ' : Rho} {S' : Sto} (s : SR K G w0 w1 σ ρ)
    (h : forLP pre eg eb ds ρ w1.S = some (f, ρ', S')) {D : Ends} (p : Post K G w0 w1 D f ρ' S') :
    ∃ W : Nat → Nat → St → Hp → Prop, (∃ m, W 0 m σ w1.H) ∧ ∀ i m σ H, W i m σ H →
      (J.stop i H ∧ D.nx σ H) ∨ (J.go i H ∧ ∃ N : St → Hp → Prop, (∀ σ' H', N σ' H' → ∃ m', m' < m ∧ W (i + 1) m' σ' H') ∧ ∀ x H', J.yld i H x H' → g x σ H' fun σ2 H2 => tb { D with nx := N, ct := N, bk := D.nx } σ2 H2) := by
  refine ⟨fun i m σ H => m = ds.length - i ∧ i ≤ ds.length ∧ ∃ w ρ, w.H = H ∧ Mv w1 w ∧ SR K G w0 w σ ρ ∧ forLP pre eg eb (ds.drop i) ρ w.S = some (f, ρ', S'), ⟨ds.length, by simp, Nat.zero_le _, w1, ρ, rfl, Mv.refl _, s, by simpa using h⟩, ?_⟩
  rintro i m σ H ⟨rfl, hi, w, ρ, rfl, mv, s, hh⟩
  have hpre : pre w.S := forLP_pre hh
  obtain ⟨j1, j2⟩ := jk i w mv s.ok hpre
  by_cases hlt : i < ds.length
  · right
    have hd : ds[i]? = some ds[i] := List.getElem?_eq_getElem hlt
    obtain ⟨go, yl⟩ := j1 _ hd
    rw [List.drop_eq_getElem_cons hlt, forLP, if_pos hpre] at hh
    refine ⟨go, fun σ' H' => ∃ w' ρ2, w'.H = H' ∧ Mv w1 w' ∧ SR K G w0 w' σ' ρ2 ∧ forLP pre eg eb (ds.drop (i + 1)) ρ2 w'.S = some (f, ρ', S'), fun σ' H' ⟨w', ρ2, e, m2, s2, h2⟩ => ⟨_, by omega, rfl, hlt, w', ρ2, e, m2, s2, h2⟩, fun x H' y => ?_⟩
    obtain ⟨w2, e2, eS, f2, o2, r2⟩ := yl x H' y
    subst e2
    cases q1 : eg ds[i] ρ w.S with
    | none => rw [q1] at hh; cases hh
    | some z =>
      obtain ⟨ρ1, S1⟩ := z
      rw [q1] at hh
      dsimp only at hh
      refine hg w0 w2 σ ρ x _ ρ1 S1 (s.step f2 o2) r2 (by rw [eS]; exact q1) _ fun σ3 w3 e3 m3 s3 => ?_
      subst e3
      have m13 : Mv w1 w3 := (mv.trans f2.mv).trans m3
      cases q2 : eb ρ1 w3.S with
      | none => rw [q2] at hh; cases hh
      | some z =>
        obtain ⟨fl, ρ2, S2⟩ := z
        rw [q2] at hh
        refine hb w0 w3 σ3 ρ1 fl ρ2 S2 s3 q2 _ ?_
        cases fl with
        | nx => exact fun σ4 w4 e4 m4 s4 => ⟨w4, ρ2, rfl, m13.trans m4, s4, by rw [e4]; exact hh⟩
        | ct => exact fun σ4 w4 e4 m4 s4 => ⟨w4, ρ2, rfl, m13.trans m4, s4, by rw [e4]; exact hh⟩
        | bk =>
          cases hh
          exact fun σ4 w4 e4 m4 s4 => p σ4 w4 e4 (m13.trans m4) s4
        | rt d => cases hh; exact p
        | rf d => cases hh; exact p
  · left
    have e : i = ds.length := by omega
    refine ⟨j2 e, ?_⟩
    rw [e, List.drop_length, forLP, if_pos hpre] at hh
    cases hh
    exact p σ w rfl mv s
theorem ss_forR {te0 : TE} {ei : Ev} {g : TG} {eg : EvG} {tb : TS} {eb : EvS} (hi : SE K G te0 ei) (hg : SG K G g eg) (hb : SS K G tb eb) : SS K G (tFor (iList K te0) g tb) (sForR ei eg eb) := fun w0 w σ ρ f ρ' S' s h D p => by
  obtain ⟨⟨dx, S1⟩, h1, h2⟩ := bnd h
  obtain ⟨pre, ds, h2, hw⟩ := onLst_is (K := K) (G := G) h2
  refine hi w σ ρ _ S1 s.ok s.rs h1 _ fun x w1 e1 f1 o1 r1 => ?_
  subst e1
  obtain ⟨a, rfl, q1, jk⟩ := hw w1 x rfl o1 r1
  exact ⟨a, rfl, q1, forLP_ok hg hb jk (s.step f1 o1) h2 (p.from f1.mv)⟩
end
end AH
namespace AH
open PySem L2 TL PySem.Spec PyProof.Rows
theorem peJoin (K : PySem.W.Frag) {X : Cx} {o e : Expr} {to te : TE} {apos pos : Pos} (ho : PE X o to) (he : PE X e te) (hs : starEach [e] X.env = [(false, eval e X.env)] := by rfl) (hbase : attributeBase o "join" X.env (eval o X.env) = eval o X.env := by rfl) (hline : (apos.endLine == pos.line) = true := by rfl) (h : X.K = K := by rfl) :
    PE X (.Call (.Attribute o "join" apos) [e] [] pos) (tM1 (rJoinR K) to te) := by subst h; exact pe_join ho he hs hbase hline
theorem sm_joinR {K : PySem.W.Frag} {G : Gx} : SM K G (rJoinR K) fJoin := sm_join
end AH
set_option maxRecDepth 100000
set_option maxHeartbeats 2000000
namespace AH
open PySem L2 TL PySem.Spec PyProof.Rows
section
variable {K : PySem.W.Frag} {G : Gx}
theorem Ok.inst {w : Wd} {v : V} {l c : Nat} {ds : List D} (o : Ok K G w) (r : RV K w v (.ref l)) (h : w.S.get l = some (.ins c ds)) : ∃ a dx gs, v = .ref a ∧ w.io l = some a ∧ w.H a = some (.ins (G.cm c) dx gs) ∧ gs.map (·.1) = (G.fl c).take ds.length ∧ ds.length ≤ (G.fl c).length ∧ RVs K w (gs.map (·.2)) ds := by
  cases r with
  | ref h1 =>
    obtain ⟨a, q1, dx, gs, q2, q3, q4, q5⟩ := o.obj l _ h
    rw [h1] at q1
    cases q1
    exact ⟨_, dx, gs, rfl, h1, q2, q3, q4, q5⟩
theorem lookup_at : ∀ {gs : List (Str × V)} {i : Nat} {f : Str} {v : V}, (gs.map (·.1)).Nodup → (gs.map (·.1))[i]? = some f → (gs.map (·.2))[i]? = some v → gs.lookup f = some v
  | [], _, _, _, _, h, _ => by simp at h
  | (g, x) :: r, 0, f, v, _, h1, h2 => by
    simp at h1 h2
    subst h1 h2
    simp [List.lookup]
  | (g, x) :: r, i + 1, f, v, nd, h1, h2 => by
    have nd' : g ∉ r.map (·.1) ∧ (r.map (·.1)).Nodup := List.nodup_cons.mp nd
    have h1' : (r.map (·.1))[i]? = some f := by simpa using h1
    have h2' : (r.map (·.2))[i]? = some v := by simpa using h2
    have hm : f ∈ r.map (·.1) := List.mem_of_getElem? h1'
    have hne : f ≠ g := fun e => nd'.1 (by rw [← e]; exact hm)
    have hb : (f == g) = false := beq_eq_false_iff_ne.mpr hne
    show (match f == g with
      | true => some x
      | false => r.lookup f) = some v
    rw [hb]
    exact lookup_at nd'.2 h1' h2'
theorem lookup_none : ∀ {gs : List (Str × V)} {f : Str}, f ∉ gs.map (·.1) → gs.lookup f = none
  | [], _, _ => rfl
  | (g, x) :: r, f, h => by
    have hne : f ≠ g := fun e => h (by rw [e]; exact List.mem_cons_self ..)
    have hb : (f == g) = false := beq_eq_false_iff_ne.mpr hne
    show (match f == g with
      | true => some x
      | false => r.lookup f) = none
    rw [hb]
    exact lookup_none fun q => h (List.mem_cons_of_mem _ q)
theorem put_at : ∀ {gs : List (Str × V)} {i : Nat} {f : Str} {y : V}, (gs.map (·.1)).Nodup → (gs.map (·.1))[i]? = some f → (putF f y gs).map (·.1) = gs.map (·.1) ∧ (putF f y gs).map (·.2) = (gs.map (·.2)).set i y
  | [], _, _, _, _, h => by simp at h
  | (g, x) :: r, 0, f, y, _, h1 => by
    simp at h1
    subst h1
    unfold putF
    rw [if_pos rfl]
    exact ⟨rfl, rfl⟩
  | (g, x) :: r, i + 1, f, y, nd, h1 => by
    have nd' : g ∉ r.map (·.1) ∧ (r.map (·.1)).Nodup := List.nodup_cons.mp nd
    have h1' : (r.map (·.1))[i]? = some f := by simpa using h1
    have hm : f ∈ r.map (·.1) := List.mem_of_getElem? h1'
    have hne : ¬ g = f := fun e => nd'.1 (by rw [e]; exact hm)
    obtain ⟨i1, i2⟩ := put_at (y := y) nd'.2 h1'
    unfold putF
    rw [if_neg hne]
    refine ⟨?_, ?_⟩
    · rw [List.map_cons, List.map_cons, i1]
    · rw [List.map_cons, List.map_cons, i2]
      rfl
theorem put_new : ∀ {gs : List (Str × V)} {f : Str} {y : V}, f ∉ gs.map (·.1) → putF f y gs = gs ++ [(f, y)]
  | [], _, _, _ => rfl
  | (g, x) :: r, f, y, h => by
    have hne : ¬ g = f := fun e => h (by rw [e]; exact List.mem_cons_self ..)
    unfold putF
    rw [if_neg hne, put_new fun q => h (List.mem_cons_of_mem _ q)]
    rfl
theorem take_get {xs : List Str} {n i : Nat} {f : Str} (h : xs[i]? = some f) (l : i < n) : (xs.take n)[i]? = some f := by
  rw [List.getElem?_take, if_pos l]
  exact h
/-- e.f -/
def eFld (c i : Nat) (a : Ev) : Ev := fun ρ S => (a ρ S).bind fun x => match x.1 with
  | .ref l => match x.2.get l with
    | some (.ins c' fs) => if c' = c then (fs[i]?).map fun d => (d, x.2) else none
    | _ => none
  | _ => none
theorem se_fld {c i : Nat} {f : Str} {ta : TE} {ea : Ev} (hi : (G.fl c)[i]? = some f) (cl : Cls K (G.cm c)) (na : NoAttr K (G.cm c) f) (nd : (G.fl c).Nodup) (ha : SE K G ta ea) : SE K G (tFld K ta f) (eFld c i ea) := fun w σ ρ d S' o rs h Q k => by
  obtain ⟨⟨dx, S1⟩, h1, h2⟩ := bnd h
  refine ha w σ ρ dx S1 o rs h1 _ fun x w1 e1 f1 o1 r1 => ?_
  subst e1
  dsimp only at h2
  split at h2
  · rename_i l
    split at h2
    · rename_i c' fs g
      split at h2
      · rename_i hc
        subst hc
        cases q : fs[i]? with
        | none => rw [q] at h2; cases h2
        | some d' =>
          rw [q] at h2
          cases h2
          obtain ⟨a, ox, gs, rfl, i1, i2, i3, i4, i5⟩ := o1.inst r1 g
          obtain ⟨v, v1, v2⟩ := i5.get q
          have lt : i < fs.length := (List.getElem?_eq_some_iff.mp q).1
          refine ⟨a, _, ox, gs, v, rfl, i2, cl, na, lookup_at (i := i) ?_ ?_ v1, Kd.now (Kd.from k f1) o1 v2⟩
          · rw [i3]
            exact nd.sublist (List.take_sublist _ _)
          · rw [i3]
            exact take_get hi lt
      · cases h2
    · cases h2
  · cases h2
/-- what stands in a field, or comes there -/
def putL (fs : List D) (i : Nat) (d : D) : Option (List D) := if i < fs.length then some (fs.set i d) else if i = fs.length then some (fs ++ [d]) else none
theorem Ok.field {w : Wd} {l c i : Nat} {a dx : Addr} {f : Str} {gs : List (Str × V)} {fs ds : List D} {y : V} {d : D} (o : Ok K G w) (g : w.S.get l = some (.ins c fs)) (i1 : w.io l = some a) (i2 : w.H a = some (.ins (G.cm c) dx gs))
    (i3 : gs.map (·.1) = (G.fl c).take fs.length) (i4 : fs.length ≤ (G.fl c).length) (i5 : RVs K w (gs.map (·.2)) fs) (hi : (G.fl c)[i]? = some f) (nd : (G.fl c).Nodup) (r : RV K w y d) (hp : putL fs i d = some ds) :
    Fr w (w.put l (.ins c ds) a (.ins (G.cm c) dx (putF f y gs))) ∧ Ok K G (w.put l (.ins c ds) a (.ins (G.cm c) dx (putF f y gs))) ∧ gs.length = fs.length := by
  have nf : ∀ q z, w.H a ≠ some (.frz q z) := fun q z e => by
    rw [i2] at e
    cases e
  have fr := Fr.put (o := .ins c ds) (u := .ins (G.cm c) dx (putF f y gs)) i1 nf
  have ln : gs.length = fs.length := by
    have := i5.length
    simpa using this
  have nd2 : (gs.map (·.1)).Nodup := by
    rw [i3]
    exact nd.sublist (List.take_sublist _ _)
  refine ⟨fr, o.put g i1 nf ?_, ln⟩
  unfold putL at hp
  split at hp
  · rename_i lt
    cases hp
    obtain ⟨p1, p2⟩ := put_at (y := y) nd2 (i := i) (f := f) (by rw [i3]; exact take_get hi lt)
    refine ⟨dx, putF f y gs, upd_same, ?_, by simpa using i4, ?_⟩
    · rw [p1, i3, List.length_set]
    · rw [p2]
      exact (i5.set r i).mono fr.mv
  · split at hp
    · rename_i e
      cases hp
      subst e
      have lt : fs.length < (G.fl c).length := (List.getElem?_eq_some_iff.mp hi).1
      have nm : f ∉ gs.map (·.1) := fun q => by
        rw [i3] at q
        obtain ⟨j, hj, hj2⟩ := List.mem_iff_getElem.mp q
        rw [List.getElem_take] at hj2
        have hj' : j < fs.length := by
          rw [List.length_take] at hj
          omega
        obtain ⟨_, hi2⟩ := List.getElem?_eq_some_iff.mp hi
        have := (List.getElem_inj nd).mp (hj2.trans hi2.symm)
        omega
      refine ⟨dx, putF f y gs, upd_same, ?_, by simp; omega, ?_⟩
      · rw [put_new nm, List.map_append, i3, List.length_append, List.length_singleton, List.take_add_one, hi]
        rfl
      · have e : (putF f y gs).map (·.2) = gs.map (·.2) ++ [y] := by
          rw [put_new nm, List.map_append]
          rfl
        rw [e]
        exact (i5.append (.one r)).mono fr.mv
    · cases hp
/-- o.f = v -/
def sPutF (c i : Nat) (eo ev : Ev) : EvS := fun ρ S => (ev ρ S).bind fun y => (eo ρ y.2).bind fun x => match x.1 with
  | .ref l => match x.2.get l with
    | some (.ins c' fs) => if c' = c then (putL fs i y.1).map fun ds => (.nx, ρ, x.2.set l (.ins c ds)) else none
    | _ => none
  | _ => none
theorem ss_fld {c i : Nat} {f : Str} {to tv : TE} {eo ev : Ev} (hi : (G.fl c)[i]? = some f) (cl : Cls K (G.cm c)) (na : NoAttr K (G.cm c) f) (nd : (G.fl c).Nodup) (hz : (G.fl c).length < 1000) (ho : SE K G to eo) (hv : SE K G tv ev) : SS K G (sFld K to tv f) (sPutF c i eo ev) := fun w0 w σ ρ fl ρ' S' s h D p => by
  obtain ⟨⟨dy, S1⟩, h1, h2⟩ := bnd h
  obtain ⟨⟨dx, S2⟩, h3, h4⟩ := bnd h2
  refine hv w σ ρ dy S1 s.ok s.rs h1 _ fun y w1 e1 f1 o1 r1 => ?_
  subst e1
  have s1 := s.step f1 o1
  refine ho w1 σ ρ dx S2 s1.ok s1.rs h3 _ fun x w2 e2 f2 o2 r2 => ?_
  subst e2
  have s2 := s1.step f2 o2
  dsimp only at h4
  split at h4
  · rename_i l
    split at h4
    · rename_i c' fs g
      split at h4
      · rename_i hc
        subst hc
        cases q : putL fs i dy with
        | none => rw [q] at h4; cases h4
        | some ds =>
          rw [q] at h4
          cases h4
          obtain ⟨a, ox, gs, rfl, i1, i2, i3, i4, i5⟩ := o2.inst r2 g
          obtain ⟨f3, o3, ln⟩ := o2.field g i1 i2 i3 i4 i5 hi nd (r1.mono f2.mv) q
          exact ⟨a, _, ox, gs, rfl, i2, cl, na, by omega, p σ _ rfl ((f1.trans f2).trans f3).mv (s2.step f3 o3)⟩
      · cases h4
    · cases h4
  · cases h4
/-- C(..) -/
def eMk (c : Nat) (F : Fn) (el : EvL) : Ev := fun ρ S => (el ρ S).bind fun x => (F (.ref x.2.next :: x.1) (x.2.new (.ins c []))).bind fun r => match r.1 with
  | .v .non => some (.ref x.2.next, r.2)
  | _ => none
theorem se_make {n c : Nat} {F : Fn} {ta : TA} {el : EvL} {C : Addr} {E : XK} (hc : G.cm c = C) (hn : ∀ ds S r, F ds S = some r → ds.length = n) (ha : SA K G ta el) : SE K G (tMake C (spOf K G n F) [] E ta) (eMk c F el) := fun w σ ρ d S' o rs h Q k => by
  obtain ⟨⟨ds, S1⟩, h1, h2⟩ := bnd h
  obtain ⟨⟨r, S2⟩, h3, h4⟩ := bnd h2
  refine ha w σ ρ ds S1 o rs h1 _ fun vs w1 e1 f1 o1 r1 => ?_
  subst e1
  intro x dx hx hdx hne
  dsimp only at h3 h4
  rw [List.append_nil]
  have fA : Fr w1 (w1.add dx (.own x)) := Fr.add hdx
  have oA : Ok K G (w1.add dx (.own x)) := o1.add hdx
  have hxA : (w1.add dx (.own x)).H x = none := by
    show upd w1.H dx (.own x) x = none
    rw [upd_ne (Ne.symm hne)]
    exact hx
  have fB : Fr (w1.add dx (.own x)) ((w1.add dx (.own x)).born (.ins c []) x (.ins C dx [])) := Fr.born oA hxA
  have oB : Ok K G ((w1.add dx (.own x)).born (.ins c []) x (.ins C dx [])) := oA.born hxA (by
    refine ⟨dx, [], ?_, rfl, Nat.zero_le _, .nil⟩
    show upd _ x _ x = _
    rw [upd_same, hc])
  have io : ((w1.add dx (.own x)).born (.ins c []) x (.ins C dx [])).io w1.S.next = some x := if_pos rfl
  refine ⟨(w1.add dx (.own x)).born (.ins c []) x (.ins C dx []), .ref w1.S.next :: ds, r, S2, rfl, ?_, oB, .cons (.ref io) (r1.mono (fA.trans fB).mv), h3, ?_⟩
  · have := hn _ _ _ h3
    rw [List.length_cons, r1.length]
    exact this
  · cases r with
    | f es => cases h4
    | v d2 =>
      cases d2 with
      | non =>
        cases h4
        intro v w' e' f' o' r'
        cases r'
        exact ⟨rfl, k _ w' e' ((f1.trans (fA.trans fB)).trans f') o' (.ref (f'.io _ _ io))⟩
      | _ => cases h4
/-- o.m(..) -/
def eMt (c : Nat) (F : Fn) (eo : Ev) (el : EvL) : Ev := fun ρ S => (eo ρ S).bind fun x => match x.1 with
  | .ref l => match x.2.get l with
    | some (.ins c' _) => if c' = c then (el ρ x.2).bind fun y => callE F (.ref l :: y.1) y.2 else none
    | _ => none
  | _ => none
def fMt (c : Nat) (F : Fn) (eo : Ev) (el : EvL) : EvL := fun ρ S => (eo ρ S).bind fun x => match x.1 with
  | .ref l => match x.2.get l with
    | some (.ins c' _) => if c' = c then (el ρ x.2).bind fun y => callF F (.ref l :: y.1) y.2 else none
    | _ => none
  | _ => none
theorem meth_at {n c : Nat} {F : Fn} {to : TE} {ta : TA} {eo : Ev} {el : EvL} {C : Addr} {m : Str} {E : XK} {w : Wd} {σ : L2.St} {ρ : Rho} {dx : D} {S1 : Sto} (hc : G.cm c = C) (hm : m ∉ G.fl c) (hn : ∀ ds S r, F ds S = some r → ds.length = n) (ho : SE K G to eo) (ha : SA K G ta el) (o : Ok K G w) (rs : RS K w σ ρ)
    (h1 : eo ρ w.S = some (dx, S1)) {l : Nat} {fs : List D} (ed : dx = .ref l) (g : S1.get l = some (.ins c fs)) {ds : List D} {S2 S3 : Sto} {r : Out} (h3 : el ρ S1 = some (ds, S2)) (h4 : F (.ref l :: ds) S2 = some (r, S3)) {Q : VK} (k : KO K G w r S3 Q) : tMeth C m (spOf K G n F) [] E to ta σ w.H Q := by
  subst ed
  refine ho w σ ρ _ S1 o rs h1 _ fun x w1 e1 f1 o1 r1 => ?_
  subst e1
  obtain ⟨a, ox, gs, rfl, i1, i2, i3, i4, i5⟩ := o1.inst r1 g
  refine ⟨a, ox, gs, rfl, by rw [← hc]; exact i2, lookup_none ?_, ?_⟩
  · rw [i3]
    exact fun q => hm (List.mem_of_mem_take q)
  refine ha w1 σ ρ ds S2 o1 (rs.fr o f1) h3 _ fun vs w2 e2 f2 o2 r2 => ?_
  subst e2
  rw [List.append_nil]
  refine ⟨w2, .ref l :: ds, r, S3, rfl, ?_, o2, .cons (r1.mono f2.mv) r2, h4, ?_⟩
  · have := hn _ _ _ h4
    rw [List.length_cons, r2.length]
    exact this
  · cases r with
    | v d => exact Kd.from k (f1.trans f2)
    | f es => exact Kf.from k (f1.trans f2) o2
theorem se_meth {n c : Nat} {F : Fn} {to : TE} {ta : TA} {eo : Ev} {el : EvL} {C : Addr} {m : Str} {E : XK} (hc : G.cm c = C) (hm : m ∉ G.fl c) (hn : ∀ ds S r, F ds S = some r → ds.length = n) (ho : SE K G to eo) (ha : SA K G ta el) : SE K G (tMeth C m (spOf K G n F) [] E to ta) (eMt c F eo el) := fun w σ ρ d S' o rs h Q k => by
  obtain ⟨⟨dx, S1⟩, h1, h2⟩ := bnd h
  dsimp only at h2
  split at h2
  · rename_i l
    split at h2
    · rename_i c' fs g
      split at h2
      · rename_i e
        subst e
        obtain ⟨⟨ds, S2⟩, h3, h4⟩ := bnd h2
        obtain ⟨⟨r, S3⟩, h5, h6⟩ := bnd h4
        cases r with
        | v d2 =>
          cases h6
          exact meth_at hc hm hn ho ha o rs h1 rfl g h3 h5 k
        | f es =>
          cases h6
          exact meth_at hc hm hn ho ha o rs h1 rfl g h3 h5 (Kf.of k o)
      · cases h2
    · cases h2
  · cases h2
theorem sf_meth {n c : Nat} {F : Fn} {to : TE} {ta : TA} {eo : Ev} {el : EvL} {C : Addr} {m : Str} {E : XK} (hc : G.cm c = C) (hm : m ∉ G.fl c) (hn : ∀ ds S r, F ds S = some r → ds.length = n) (ho : SE K G to eo) (ha : SA K G ta el) : SF K G (tMeth C m (spOf K G n F) [] E to ta) (fMt c F eo el) := fun w σ ρ d S' o rs h Q k => by
  obtain ⟨⟨dx, S1⟩, h1, h2⟩ := bnd h
  dsimp only at h2
  split at h2
  · rename_i l
    split at h2
    · rename_i c' fs g
      split at h2
      · rename_i e
        subst e
        obtain ⟨⟨ds, S2⟩, h3, h4⟩ := bnd h2
        obtain ⟨⟨r, S3⟩, h5, h6⟩ := bnd h4
        cases r with
        | v d' => cases h6
        | f es =>
          cases h6
          exact meth_at hc hm hn ho ha o rs h1 rfl g h3 h5 k
      · cases h2
    · cases h2
  · cases h2
end
section
variable {X : Cx}
theorem psFld (K : PySem.W.Frag) {o value : Expr} {f : Str} {pos pos' : Pos} {ta tv : TE} (ha : PE X o ta) (hv : PE X value tv) (hs : swapsWith value (some (.Attribute o f pos')) pos.line X.env = pure false := by rfl) (h : X.K = K := by rfl) : PS X (.Assign [.Attribute o f pos'] value pos) (sFld K ta tv f) := by subst h; exact ps_fld ha hv hs
end
end AH
set_option maxRecDepth 100000
set_option maxHeartbeats 2000000
namespace AH
open PySem L2 TL PySem.Spec PyProof.Rows
def ItS (c : List Nat) : It :=
  ⟨fun i _ => i < c.length, fun i H v H' => ∃ T x, v = .ref T ∧ H T = none ∧ H' = upd H T (.tup [.int (i : Nat), .str ⟨[x].toArray⟩]) ∧ c[i]? = some x, fun i _ => i = c.length⟩
theorem turn_enumS {P : Program} {w : World} {K : PySem.W.Frag} {elts : List Expr} {kk : Nat} {tpos : Pos} {c : List Nat} {t : Tok} {ty : String} (e it : Addr)
    (D : ∀ A : Around, A.handled = none → Draws P w A it [it] c.toArray.size (fun i v => ∃ x u, c.toArray[i]? = some x ∧ v = .str ⟨#[x]⟩ u) fun i h => h.IsStrIter it ty ⟨c.toArray⟩ t i) :
    Turn P w K (.Tuple elts kk tpos) (ItS c) [e, it] e (fun i h => (∃ old, IsEnum h e it ((i : Nat) : Int) old) ∧ h.IsStrIter it ty ⟨c.toArray⟩ t i ∧ e ≠ it) where
  mem := by simp
  obj := fun i h st b hb => by
    obtain ⟨⟨old, he⟩, ⟨o, ho, hc, hd⟩, _⟩ := st
    have e' : b = e ∨ b = it := by simpa using hb
    rcases e' with z | z
    · rw [z]; exact ⟨_, he, fun v q => nomatch q⟩
    · rw [z]; exact ⟨o, ho, fun v q => by rw [hd] at q; cases q⟩
  keep := fun i h h' st k => let ⟨⟨old, he⟩, ⟨o, ho, r⟩, hne⟩ := st; ⟨⟨old, k e (by simp) _ he⟩, ⟨o, k it (by simp) o ho, r⟩, hne⟩
  item := by
    intro X hP hw hK hc i pins s σ H E I hf st hg
    subst hP hw hK
    obtain ⟨⟨old, he⟩, hit, hne⟩ := st
    have hi : i < c.length := hg
    have hel : e < s.heap.objs.size := Heap.lt_size he
    have hil : it < s.heap.objs.size := by obtain ⟨_, q, _⟩ := hit; exact Heap.lt_size q
    refine wpAny_pyNext_enum_itemD (i := i) (D X.A.in1 (I.ok.hd hc)) he hit (by simpa using hi) hne (by simpa using hne) fun xv h' tk hx ho hit' hT hsz hk => ?_
    obtain ⟨x, u, hcx, rfl⟩ := hx
    have hcx' : c[i]? = some x := by simpa using hcx
    refine ⟨_, rfl, wpAny_letOwnedTupleGo_enum (s := { s with heap := h', toks := tk + 1 }) ho fun h'' he' sb => ?_⟩
    have hT2 : h''.get? s.heap.objs.size = some { cls := .type "tuple", data := .seq #[.int i tk, .str ⟨#[x]⟩ u] } := (sb.2 _ (Nat.ne_of_gt hel)).trans hT
    have new : ObjOk X.prog X.w (upd H s.heap.objs.size (.tup [.int (i : Nat), .str ⟨[x].toArray⟩])) h'' s.heap.objs.size (.tup [.int (i : Nat), .str ⟨[x].toArray⟩]) :=
      ⟨by show 2 ≤ sizeLine; decide, [.int i tk, .str ⟨#[x]⟩ u], .cons ⟨_, rfl⟩ (.cons ⟨u, rfl⟩ .nil), ⟨_, hT2, rfl, _, rfl⟩⟩
    have I1 : Inv X pins σ (upd H s.heap.objs.size (.tup [.int (i : Nat), .str ⟨[x].toArray⟩])) { s with heap := h'', toks := tk + 1 } :=
      I.turnedNew (ch := [e, it]) (fun b ob hb q => (sb.2 b (fun z => hb (by simp [z]))).trans (hk b ob (fun z => hb (by simp [z])) (fun z => hb (by simp [z])) q)) hf (Nat.le_refl _) new
    refine ⟨.ref s.heap.objs.size, _, I1, rfl, ⟨_, x, rfl, I.hok.fresh (Nat.le_refl _), rfl, hcx'⟩, ⟨⟨.str ⟨#[x]⟩ u, ?_⟩, ?_, hne⟩, fun b hb => ?_⟩
    · have e1 : ((i + 1 : Nat) : Int) = (i : Int) + 1 := by omega
      rw [e1]; exact he'
    · obtain ⟨o, q1, q2⟩ := hit'
      exact ⟨o, (sb.2 it (Ne.symm hne)).trans q1, q2⟩
    · have hb' : b < s.heap.objs.size := by
        have e' : b = e ∨ b = it := by simpa using hb
        rcases e' with z | z
        · rw [z]; exact hel
        · rw [z]; exact hil
      rw [upd_ne (Nat.ne_of_lt hb')]
      exact (hf b hb).1
  done := by
    intro X hP hw hK hc i pins s σ H E I hf st hg
    subst hP hw hK
    obtain ⟨⟨old, he⟩, hit, hne⟩ := st
    have hin : i = c.toArray.size := by
      have : i = c.length := hg
      simpa using this
    obtain ⟨f0, f1, f2, f3, f4, f5⟩ := hf it (by simp)
    subst hin
    exact wpAny_pyNext_enum_endD (D X.A.in1 (I.ok.hd hc)) he hit fun h' eb => ⟨rfl, I.turned (t' := s.toks) (fun b o hb q => eb b o hb q) f0 f1 f3 f4 f5⟩
  self := fun A i s Q E st h => let ⟨⟨_, he⟩, _⟩ := st; wpAny_pyIter_enum he h
def iEnumS (ta : TA) : TI := fun σ H R => ta σ H fun vs H1 => ∃ c : List Nat, vs = [.str ⟨c.toArray⟩] ∧ R (ItS c) H1
theorem pi_enumS {X : Cx} {e : Expr} {ta : TA} {p pos tpos : Pos} {elts : List Expr} {kk : Nat} (hg : Gl X "enumerate") (hm : X.mg "enumerate" = none) (ha : PA X [e] ta) (hs : starEach [e] X.env = [(false, eval e X.env)] := by rfl) :
    PI X (.Tuple elts kk tpos) (.Call (.Name "enumerate" p) [e] [] pos) (iEnumS ta) := by
  refine ⟨fun pins s σ H R I h => ?_⟩
  refine Call_ (ld_blt I hg hm boot_enumerate (PyProof.Rows.callWith_type1 (thn (ha.run pos pins s σ H _ I h) fun us s1 ⟨vs, H1, I1, r1, q1⟩ => ?_) hs rfl))
  obtain ⟨c, ex, q⟩ := q1
  subst ex
  cases r1 with
  | cons r rr =>
    cases rr
    obtain ⟨t, rfl⟩ := r
    refine call_enumerate_str fun h' he hit hsz hk => wpAny_pyIter_enum he ?_
    have I2 : Inv X pins σ H1 { s1 with heap := h' } := I1.kept (t' := s1.toks) hk
    have fp : ∀ b ∈ [s1.heap.objs.size + 1, s1.heap.objs.size], FpOk X pins H1 b := fun b hb => by
      have e' : b = s1.heap.objs.size + 1 ∨ b = s1.heap.objs.size := by simpa using hb
      have hle : s1.heap.objs.size ≤ b := by
        rcases e' with z | z
        · rw [z]; exact Nat.le_add_right _ _
        · rw [z]; exact Nat.le_refl _
      exact I1.fpOk hle (I1.hok.fresh hle)
    cases al : (⟨c.toArray⟩ : Str).cps.all (· < 128)
    · have hit' : h'.IsStrIter s1.heap.objs.size "str_iterator" ⟨c.toArray⟩ t 0 := by
        unfold strIterType at hit
        rw [al] at hit
        exact hit
      exact ⟨s1.heap.objs.size + 1, [s1.heap.objs.size + 1, s1.heap.objs.size], _, _, H1, rfl, I2, turn_enumS (s1.heap.objs.size + 1) s1.heap.objs.size (fun A hh => Draws.strWide hh _ _ _), ⟨⟨.none, he⟩, hit', Nat.succ_ne_self _⟩, fp, q⟩
    · have hit' : h'.IsStrIter s1.heap.objs.size "str_ascii_iterator" ⟨c.toArray⟩ t 0 := by
        unfold strIterType at hit
        rw [al] at hit
        exact hit
      exact ⟨s1.heap.objs.size + 1, [s1.heap.objs.size + 1, s1.heap.objs.size], _, _, H1, rfl, I2, turn_enumS (s1.heap.objs.size + 1) s1.heap.objs.size (fun A hh => Draws.strAscii hh _ _ _), ⟨⟨.none, he⟩, hit', Nat.succ_ne_self _⟩, fp, q⟩
def enumS (z : List Nat) : List D := (List.range z.length).map fun k => D.tup [.int (k : Nat), .str [z.getD k 0]]
def iES (a : EvL) : EvL := fun ρ S => (a ρ S).bind fun x => match x.1 with
  | [.str z] => some (enumS z, x.2)
  | _ => none
section
variable {K : PySem.W.Frag} {G : Gx}
theorem si_enumS {ta : TA} {el : EvL} (h : SA K G ta el) : SI K G (iEnumS ta) (iES el) := fun w σ ρ ds S' o rs hh R k => by
  obtain ⟨⟨d, S1⟩, h1, h2⟩ := bnd hh
  refine h w σ ρ d S1 o rs h1 _ fun v w1 e1 f1 o1 r1 => ?_
  subst e1
  dsimp only at h2
  split at h2
  · rename_i z
    cases h2
    obtain ⟨v, rfl, r2⟩ := r1.one_of
    cases r2
    refine ⟨z, rfl, k _ w1 rfl f1 o1 fun i w' m o' => ?_⟩
    unfold enumS
    refine ⟨fun d hd => ?_, fun e => (by simpa using e : i = z.length)⟩
    rw [List.getElem?_map] at hd
    cases q : (List.range z.length)[i]? with
    | none => rw [q] at hd; cases hd
    | some c =>
      rw [q] at hd
      cases hd
      obtain ⟨hi, he⟩ := List.getElem?_eq_some_iff.mp q
      rw [List.length_range] at hi
      rw [List.getElem_range] at he
      subst he
      refine ⟨hi, fun x H' y => ?_⟩
      obtain ⟨T, x', y1, y2, y3, y4⟩ := y
      subst y1 y3
      have ex : z.getD i 0 = x' := by
        rw [List.getD_eq_getElem?_getD, y4]
        rfl
      show ∃ w2, _ ∧ _ ∧ _ ∧ _ ∧ RV K w2 (V.ref T) (D.tup [D.int ↑i, D.str [z.getD i 0]])
      rw [ex]
      exact ⟨w'.add T (.tup [.int (i : Nat), .str ⟨[x'].toArray⟩]), rfl, rfl, Fr.add y2, o'.add y2, .tup upd_same (fun z => o'.fresh y2 z) (.cons .int (.one .str))⟩
  · cases h2
end
def gFldT (K : PySem.W.Frag) (ta : TE) (f : Str) : TG := fun y σ H Q => ta σ H fun x H2 => ∃ a C dx fs, x = .ref a ∧ H2 a = some (.ins C dx fs) ∧ Cls K C ∧ NoAttr K C f ∧ fs.length < 1000 ∧ Q σ (upd H2 a (.ins C dx (putF f y fs)))
theorem pg_fld (K : PySem.W.Frag) {X : Cx} {o : Expr} {f : Str} {pos : Pos} {ta : TE} (ho : PE X o ta)
    (ha : ∀ v, assign (.Attribute o f pos) X.env v = (do
      let ov ← holding [v] (eval o X.env)
      standAt pos.atName
      holding [v, ov] (setAttr ov f v)
      release [v, ov] []) := by intro _; rfl) (h : X.K = K := by rfl) : PG X (.Attribute o f pos) (gFldT K ta f) := by
  subst h
  refine ⟨fun pins s σ H v u Q I r h => ?_⟩
  rw [ha]
  refine wpAny_bind (wpAny_holding (thn (ho.run pins s σ H _ I h) fun ov s1 ⟨x, H1, I1, r1, a, C, dx, fs, ex, ea, c, n, l, q⟩ => ?_))
  subst ex
  obtain rfl : ov = Value.ref a := r1
  refine wpAny_bind (wpAny_standAt (wpAny_bind (wpAny_holding ?_)))
  exact setattr_ok I1 ea c n l r fun s2 I2 => wpAny_release ⟨σ, _, I2, q⟩
end AH
set_option maxRecDepth 100000
set_option maxHeartbeats 2000000
namespace AH
open PySem L2 TL PySem.Spec PyProof.Rows
section
variable {K : PySem.W.Frag} {G : Gx}
def gFd (c i : Nat) (eo : Ev) : EvG := fun d ρ S => (eo ρ S).bind fun x => match x.1 with
  | .ref l => match x.2.get l with
    | some (.ins c' fs) => if c' = c then (putL fs i d).map fun ds => (ρ, x.2.set l (.ins c ds)) else none
    | _ => none
  | _ => none
theorem sg_fld {c i : Nat} {f : Str} {to : TE} {eo : Ev} (hi : (G.fl c)[i]? = some f) (cl : Cls K (G.cm c)) (na : NoAttr K (G.cm c) f) (nd : (G.fl c).Nodup) (hz : (G.fl c).length < 1000) (ho : SE K G to eo) : SG K G (gFldT K to f) (gFd c i eo) := fun w0 w σ ρ x d ρ' S' s r h Q k => by
  obtain ⟨⟨dx, S2⟩, h3, h4⟩ := bnd h
  refine ho w σ ρ dx S2 s.ok s.rs h3 _ fun xv w2 e2 f2 o2 r2 => ?_
  subst e2
  have s2 := s.step f2 o2
  dsimp only at h4
  split at h4
  · rename_i l
    split at h4
    · rename_i c' fs g
      split at h4
      · rename_i hc
        subst hc
        cases q : putL fs i d with
        | none => rw [q] at h4; cases h4
        | some ds =>
          rw [q] at h4
          cases h4
          obtain ⟨a, ox, gs, rfl, i1, i2, i3, i4, i5⟩ := o2.inst r2 g
          obtain ⟨f3, o3, ln⟩ := o2.field g i1 i2 i3 i4 i5 hi nd (r.mono f2.mv) q
          exact ⟨a, _, ox, gs, rfl, i2, cl, na, by omega, k σ _ rfl (f2.trans f3).mv (s2.step f3 o3)⟩
      · cases h4
    · cases h4
  · cases h4
def sPar3 (i j l : Nat) (a b c : Ev) : EvS := fun ρ S => (a ρ S).bind fun x => (b ρ x.2).bind fun y => (c ρ y.2).bind fun z => if i < ρ.length ∧ j < ρ.length ∧ l < ρ.length then some (.nx, ((ρ.set i (.val x.1)).set j (.val y.1)).set l (.val z.1), z.2) else none
theorem ss_par3 {i j l : Nat} {ta tb tc : TE} {ea eb ec : Ev} (ha : SE K G ta ea) (hb : SE K G tb eb) (hc : SE K G tc ec) : SS K G (tPar3 i j l (tCons ta (tCons tb (tCons tc tNil)))) (sPar3 i j l ea eb ec) := fun w0 w σ ρ f ρ' S' s h D p => by
  obtain ⟨⟨c, S1⟩, h1, h2⟩ := bnd h
  obtain ⟨⟨d, S2⟩, h3, h4⟩ := bnd h2
  obtain ⟨⟨e, S3⟩, h5, h6⟩ := bnd h4
  split at h6
  · rename_i hl
    cases h6
    refine ha w σ ρ c _ s.ok s.rs h1 _ fun v w1 e1 f1 o1 r1 => ?_
    subst e1
    have s1 := s.step f1 o1
    refine hb w1 σ ρ d _ s1.ok s1.rs h3 _ fun u w2 e2 f2 o2 r2 => ?_
    subst e2
    have s2 := s1.step f2 o2
    refine hc w2 σ ρ e _ s2.ok s2.rs h5 _ fun t w3 e3 f3 o3 r3 => ?_
    have s3 := s2.step f3 o3
    refine ⟨v, u, t, rfl, ?_⟩
    obtain ⟨m4, s4⟩ := s3.setv (i := i) (r1.mono (f2.trans f3).mv) hl.1
    obtain ⟨m5, s5⟩ := s4.setv (i := j) ((r2.mono f3.mv).mono m4) (by rw [List.length_set]; exact hl.2.1)
    obtain ⟨m6, s6⟩ := s5.setv (i := l) ((r3.mono m4).mono m5) (by rw [List.length_set, List.length_set]; exact hl.2.2)
    exact p _ (((w3.bars w0 (σ.set i (some v)) (ρ.set i (.val c))).bars w0 ((σ.set i (some v)).set j (some u)) ((ρ.set i (.val c)).set j (.val d))).bars w0 (((σ.set i (some v)).set j (some u)).set l (some t)) (((ρ.set i (.val c)).set j (.val d)).set l (.val e))) e3 (((((f1.mv.trans f2.mv).trans f3.mv).trans m4).trans m5).trans m6) s6
  · cases h6
end
end AH
set_option maxRecDepth 100000
set_option maxHeartbeats 2000000
namespace AH
open PySem L2 TL PySem.Spec PyProof.Rows
def keyD : D → Option DK
  | .int n => some (.i n)
  | .str c => some (.s c)
  | _ => none
def dget (kvs : List (DK × D)) (k : DK) : Option D := (kvs.find? fun q => decide (q.1 = k)).map (·.2)
def dput (kvs : List (DK × D)) (k : DK) (d : D) : List (DK × D) := if (kvs.any fun q => decide (q.1 = k)) = true then kvs.map (fun q => if q.1 = k then (q.1, d) else q) else kvs ++ [(k, d)]
section
variable {K : PySem.W.Frag} {G : Gx} {w : Wd}
theorem key_rv {v : V} {d : D} {k : DK} (r : RV K w v d) (h : keyD d = some k) : v = kV k.key := by
  cases r <;> cases h <;> rfl
theorem key_dec {k k2 : DK} : decide (k.key = k2.key) = decide (k = k2) := by
  by_cases e : k = k2
  · rw [e, decide_eq_true rfl, decide_eq_true rfl]
  · rw [decide_eq_false e, decide_eq_false fun z => e (DK.key_inj z)]
theorem rk_get {ks : List (Key × V)} {kvs : List (DK × D)} (r : RK K w ks kvs) (k : DK) : match dget kvs k with
    | some d => ∃ v, valV ks k.key = some v ∧ RV K w v d
    | none => valV ks k.key = none := by
  induction r with
  | nil => rfl
  | @cons p q ps qs h t ih =>
    obtain ⟨h1, h2⟩ := h
    unfold dget valV
    rw [List.find?_cons, List.find?_cons, h1, key_dec]
    by_cases e : q.1 = k
    · rw [decide_eq_true e]
      exact ⟨p.2, rfl, h2⟩
    · rw [decide_eq_false e]
      exact ih
theorem rk_any {ks : List (Key × V)} {kvs : List (DK × D)} (r : RK K w ks kvs) (k : DK) : (ks.any fun q => decide (q.1 = k.key)) = kvs.any fun q => decide (q.1 = k) := by
  induction r with
  | nil => rfl
  | @cons p q ps qs h t ih =>
    rw [List.any_cons, List.any_cons, ih, h.1, key_dec]
theorem rk_map {v : V} {d : D} (k : DK) (rv : RV K w v d) {ks : List (Key × V)} {kvs : List (DK × D)} (r : RK K w ks kvs) : RK K w (ks.map fun q => if q.1 = k.key then (q.1, v) else q) (kvs.map fun q => if q.1 = k then (q.1, d) else q) := by
  induction r with
  | nil => exact .nil
  | @cons p q ps qs h t ih =>
    rw [List.map_cons, List.map_cons]
    refine .cons ?_ ih
    by_cases e : q.1 = k
    · rw [if_pos (show p.1 = k.key by rw [h.1, e]), if_pos e]
      exact ⟨h.1, rv⟩
    · rw [if_neg (show ¬ p.1 = k.key by rw [h.1]; exact fun z => e (DK.key_inj z)), if_neg e]
      exact h
theorem rk_snoc {v : V} {d : D} (k : DK) (rv : RV K w v d) {ks : List (Key × V)} {kvs : List (DK × D)} (r : RK K w ks kvs) : RK K w (ks ++ [(k.key, v)]) (kvs ++ [(k, d)]) := by
  induction r with
  | nil => exact .cons ⟨rfl, rv⟩ .nil
  | @cons p q ps qs h t ih => exact .cons h ih
theorem rk_put {ks : List (Key × V)} {kvs : List (DK × D)} {v : V} {d : D} (r : RK K w ks kvs) (k : DK) (rv : RV K w v d) : RK K w (putK ks k.key v) (dput kvs k d) := by
  unfold putK dput
  rw [rk_any r k]
  split
  · exact rk_map k rv r
  · exact rk_snoc k rv r
theorem rk_len {ks : List (Key × V)} {kvs : List (DK × D)} (r : RK K w ks kvs) : ks.length = kvs.length := by
  induction r with
  | nil => rfl
  | cons h t ih => rw [List.length_cons, List.length_cons, ih]
/-- d[k] -/
def fDGet (a b : D) (S : Sto) : Option (D × Sto) := match a with
  | .ref l => match S.get l with
    | some (.dic _ kvs) => (keyD b).bind fun k => (dget kvs k).map fun d => (d, S)
    | _ => none
  | _ => none
def fDIn (b a : D) (S : Sto) : Option (D × Sto) := match a with
  | .ref l => match S.get l with
    | some (.dic _ kvs) => (keyD b).map fun k => (.bl (dget kvs k).isSome, S)
    | _ => none
  | _ => none
def fDNotIn (b a : D) (S : Sto) : Option (D × Sto) := match a with
  | .ref l => match S.get l with
    | some (.dic _ kvs) => (keyD b).map fun k => (.bl (!(dget kvs k).isSome), S)
    | _ => none
  | _ => none
theorem Ok.dict {v : V} {l : Nat} {lk : Bool} {kvs : List (DK × D)} (o : Ok K G w) (r : RV K w v (.ref l)) (h : w.S.get l = some (.dic lk kvs)) : ∃ a ks, v = .ref a ∧ w.io l = some a ∧ Rd w.H a (.dK ks) ∧ RK K w ks kvs ∧ (lk = false → w.H a = some (.dK ks)) := by
  cases r with
  | ref h1 =>
    obtain ⟨a, q1, ks, q2, q3⟩ := o.obj l _ h
    rw [h1] at q1
    cases q1
    cases lk with
    | false => exact ⟨_, ks, rfl, h1, .inl q2, q3, fun _ => q2⟩
    | true =>
      obtain ⟨od, q2⟩ := q2
      exact ⟨_, ks, rfl, h1, .inr ⟨od, q2⟩, q3, fun z => nomatch z⟩
theorem se_dget {ta tb : TE} {ea eb : Ev} (ha : SE K G ta ea) (hb : SE K G tb eb) : SE K G (tDGet ta tb) (e2 fDGet ea eb) := fun w σ ρ d S' o rs h Q k =>
  se_2 ha hb o rs h fun x y dx dy w' f' o' rx ry hh => by
    unfold fDGet at hh
    split at hh
    · rename_i l
      split at hh
      · rename_i lk kvs g
        obtain ⟨key, h1, h2⟩ := bnd hh
        cases q : dget kvs key with
        | none => rw [q] at h2; cases h2
        | some d' =>
          rw [q] at h2
          cases h2
          obtain ⟨a, ks, rfl, i1, i2, i3, _⟩ := o'.dict rx g
          have hg := rk_get i3 key
          rw [q] at hg
          obtain ⟨v, v1, v2⟩ := hg
          exact ⟨a, v, rfl, .inl ⟨ks, key.key, i2, key_rv ry h1, v1.symm⟩, Kd.now (Kd.from k f') o' v2⟩
      · cases hh
    · cases hh
/-- d[k] = v -/
def gDPut (eo ei : Ev) : EvG := fun d ρ S => (eo ρ S).bind fun x => (ei ρ x.2).bind fun y => match x.1 with
  | .ref l => match y.2.get l with
    | some (.dic false kvs) => if kvs.length < sizeLine then (keyD y.1).map fun k => (ρ, y.2.set l (.dic false (dput kvs k d))) else none
    | _ => none
  | _ => none
theorem sg_dput {to ti : TE} {eo ei : Ev} (ho : SE K G to eo) (hi : SE K G ti ei) : SG K G (gSub to ti rSetD) (gDPut eo ei) := fun w0 w σ ρ x d ρ' S' s r h Q k => by
  obtain ⟨⟨dx, S1⟩, h1, h2⟩ := bnd h
  obtain ⟨⟨dy, S2⟩, h3, h4⟩ := bnd h2
  refine ho w σ ρ dx S1 s.ok s.rs h1 _ fun ov w1 e1 f1 o1 r1 => ?_
  subst e1
  have s1 := s.step f1 o1
  refine hi w1 σ ρ dy S2 s1.ok s1.rs h3 _ fun iv w2 e2 f2 o2 r2 => ?_
  subst e2
  have s2 := s1.step f2 o2
  dsimp only at h4
  split at h4
  · rename_i l
    split at h4
    · rename_i kvs hl
      split at h4
      · rename_i hz
        cases hk : keyD dy with
        | none => rw [hk] at h4; cases h4
        | some key =>
          rw [hk] at h4
          cases h4
          obtain ⟨a, ks, rfl, i1, i2, i3, i4⟩ := o2.dict (r1.mono f2.mv) hl
          have i5 := i4 rfl
          have nf : ∀ q z, w2.H a ≠ some (.frz q z) := fun q z e => by
            rw [i5] at e
            cases e
          have f3 := Fr.put (o := .dic false (dput kvs key d)) (u := .dK (putK ks key.key x)) i1 nf
          have o3 := o2.put hl i1 nf (o := .dic false (dput kvs key d)) (u := .dK (putK ks key.key x)) ⟨_, upd_same, L2.Paired.mapP (rk_put i3 key (r.mono (f1.trans f2).mv)) fun _ _ q => ⟨q.1, q.2.mono f3.mv⟩⟩
          exact ⟨a, _, rfl, .inl ⟨ks, key.key, i5, key_rv r2 hk, by rw [rk_len i3]; exact hz, rfl⟩, k σ _ rfl ((f1.trans f2).trans f3).mv (s2.step f3 o3)⟩
      · cases h4
    · cases h4
  · cases h4
end
end AH
set_option maxRecDepth 100000
set_option maxHeartbeats 2000000
namespace AH
open PySem L2 TL PySem.Spec PyProof.Rows
section
variable {K : PySem.W.Frag} {G : Gx}
def dmerge (kvs more : List (DK × D)) : List (DK × D) := more.foldl (fun acc kv => dput acc kv.1 kv.2) kvs
def eDisp (ks : List DK) (el : EvL) : Ev := fun ρ S => (el ρ S).bind fun x => some (.ref x.2.next, x.2.new (.dic false (dmerge [] (ks.zip x.1))))
end
end AH
namespace AH
open PySem L2 TL PySem.Spec PyProof.Rows
section
variable {K : PySem.W.Frag} {G : Gx}
/-- a def's answer; a new list becomes the store's -/
def callO (F : Fn) (ds : List D) (S : Sto) : Option (D × Sto) := (F ds S).bind fun r => match r.1 with
  | .v d => some (d, r.2)
  | .f es => some (.ref r.2.next, r.2.new (.lst es))
def eMtO (c : Nat) (F : Fn) (eo : Ev) (el : EvL) : Ev := fun ρ S => (eo ρ S).bind fun x => match x.1 with
  | .ref l => match x.2.get l with
    | some (.ins c' _) => if c' = c then (el ρ x.2).bind fun y => callO F (.ref l :: y.1) y.2 else none
    | _ => none
  | _ => none
end
end AH
set_option maxRecDepth 100000
set_option maxHeartbeats 2000000
namespace AH
open PySem L2 TL PySem.Spec PyProof.Rows
def isD (x : D) (S : Sto) : Option (Nat × Sto) := match x with
  | .ref l => match S.get l with
    | some (.dic _ _) => some (l, S)
    | _ => none
  | _ => none
theorem isD_is {x : D} {S S1 : Sto} {l : Nat} (e : isD x S = some (l, S1)) : S1 = S ∧ x = .ref l ∧ ∃ lk kvs, S.get l = some (.dic lk kvs) := by
  unfold isD at e
  split at e
  · split at e
    · rename_i g
      cases e
      exact ⟨rfl, rfl, _, _, g⟩
    · cases e
  · cases e
def fDGet2 (l : Nat) (y z : D) (S : Sto) : Option (D × Sto) := match S.get l with
  | some (.dic _ kvs) => (keyD y).map fun k => ((dget kvs k).getD z, S)
  | _ => none
def eDGet2 (eo ek ed : Ev) : Ev := fun ρ S => (eo ρ S).bind fun x => (isD x.1 x.2).bind fun u => (ek ρ u.2).bind fun y => (ed ρ y.2).bind fun z => fDGet2 u.1 y.1 z.1 z.2
def fNewK (S : Sto) : Option (D × Sto) := some (.ref S.next, S.new (.dic false []))
def fNewT (S : Sto) : Option (D × Sto) := some (.ref S.next, S.new (.dit false []))
def eNewK : Ev := fun _ S => fNewK S
def eNewT : Ev := fun _ S => fNewT S
section
variable {K : PySem.W.Frag} {G : Gx} {w : Wd}
theorem se_dget2 {to tk td : TE} {eo ek ed : Ev} (ho : SE K G to eo) (hk : SE K G tk ek) (hd : SE K G td ed) : SE K G (tDGet2 to tk td) (eDGet2 eo ek ed) := fun w σ ρ d S' o rs h Q k => by
  obtain ⟨⟨dx, S1⟩, h1, ha⟩ := bnd h
  obtain ⟨⟨l, S1'⟩, h2, hb⟩ := bnd ha
  obtain ⟨⟨dy, S2⟩, h3, hc⟩ := bnd hb
  obtain ⟨⟨dz, S3⟩, h4, hh⟩ := bnd hc
  clear h ha hb hc
  obtain ⟨rfl, ex, lk, kvs0, g0⟩ := isD_is h2
  dsimp only at ex
  subst ex
  refine ho w σ ρ _ S1' o rs h1 _ fun x w1 e1 f1 o1 r1 => ?_
  subst e1
  obtain ⟨a, ks0, rfl, i0, q0, _, _⟩ := o1.dict r1 g0
  refine ⟨a, rfl, .inl ⟨ks0, q0⟩, hk w1 σ ρ dy S2 o1 (rs.fr o f1) h3 _ fun y w2 e2 f2 o2 r2 => ?_⟩
  subst e2
  refine hd w2 σ ρ dz S3 o2 (rs.fr o (f1.trans f2)) h4 _ fun z w3 e3 f3 o3 r3 => ?_
  subst e3
  unfold fDGet2 at hh
  dsimp only at hh
  split at hh
  · rename_i lk kvs g
    cases hk : keyD dy with
    | none => rw [hk] at hh; cases hh
    | some key =>
      rw [hk] at hh
      cases hh
      obtain ⟨a', ks, ea, i1, q1, rk, _⟩ := o3.dict (r1.mono (f2.trans f3).mv) g
      cases ea
      have hg := rk_get rk key
      have f13 := (f1.trans f2).trans f3
      refine ⟨valV ks key.key, .inl ⟨ks, key.key, q1, key_rv (r2.mono f3.mv) hk, rfl⟩, ?_⟩
      cases q : dget kvs key with
      | none =>
        rw [q] at hg k
        rw [hg]
        exact Kd.now (Kd.from k f13) o3 r3
      | some d' =>
        rw [q] at hg k
        obtain ⟨v, v1, v2⟩ := hg
        rw [v1]
        exact Kd.now (Kd.from k f13) o3 v2
  · cases hh
theorem se_newK : SE K G tDNewK eNewK := fun w σ ρ d S' o rs h Q k => by
  cases h
  intro p hp
  exact k (.ref p) (w.born (.dic false []) p (.dK [])) rfl (Fr.born o hp) (o.born hp ⟨[], upd_same, .nil⟩) (.ref (if_pos rfl))
end
end AH
namespace AH
open PySem L2 TL PySem.Spec PyProof.Rows
end AH
set_option maxRecDepth 100000
set_option maxHeartbeats 2000000
namespace AH
open PySem L2 TL PySem.Spec PyProof.Rows
def sortI (ns : List Int) : List Int := ns.mergeSort fun a b => decide (a ≤ b)
theorem sortI_perm (ns : List Int) : (sortI ns).Perm ns := List.mergeSort_perm _ _
theorem sortI_up (ns : List Int) : (sortI ns).Pairwise (· ≤ ·) := by
  have h := List.pairwise_mergeSort (le := fun a b : Int => decide (a ≤ b)) (fun a b c h1 h2 => by simp at *; omega) (fun a b => by simp; omega) ns
  exact h.imp fun h => by simpa using h
theorem sorted_one : ∀ {a b : List Int}, a.Perm b → a.Pairwise (· ≤ ·) → b.Pairwise (· ≤ ·) → a = b
  | [], b, p, _, _ => (List.nil_perm.mp p).symm
  | x :: xs, [], p, _, _ => (List.perm_nil.mp p)
  | x :: xs, y :: ys, p, h1, h2 => by
    have hx : y ≤ x := by
      rcases List.mem_cons.mp (p.mem_iff.mp (List.mem_cons_self ..) : x ∈ y :: ys) with e | e
      · omega
      · exact (List.pairwise_cons.mp h2).1 x e
    have hy : x ≤ y := by
      rcases List.mem_cons.mp (p.mem_iff.mpr (List.mem_cons_self ..) : y ∈ x :: xs) with e | e
      · omega
      · exact (List.pairwise_cons.mp h1).1 y e
    have e : x = y := by omega
    subst e
    rw [sorted_one ((List.perm_cons x).mp p) (List.pairwise_cons.mp h1).2 (List.pairwise_cons.mp h2).2]
def keysI : List (DK × D) → Option (List Int)
  | [] => some []
  | (.i n, _) :: r => (keysI r).map (n :: ·)
  | _ => none
def fSortD (ds : List D) (S : Sto) : Option (List D × Sto) := match ds with
  | [.ref l] => match S.get l with
    | some (.dic _ kvs) => (keysI kvs).bind fun ns => if ns.length < 64 then some ((sortI ns).map D.int, S) else none
    | _ => none
  | _ => none
def gUn (n : Nat) (h : EvGs) : EvG := fun d ρ S => (lstOf S d).bind fun ds => if ds.length = n then h ds ρ S else none
section
variable {K : PySem.W.Frag} {G : Gx} {w : Wd}
theorem keysI_rv : ∀ {kvs : List (DK × D)} {ks : List (Key × V)} {ns : List Int}, RK K w ks kvs → keysI kvs = some ns → ks.map (·.1) = ns.map Sum.inl
  | [], _, ns, r, h => by cases r; cases h; rfl
  | (k, d) :: kvs, _, ns, r, h => by
    cases r with
    | cons r1 r2 =>
      cases k with
      | i n =>
        rw [keysI] at h
        cases e : keysI kvs with
        | none => rw [e] at h; cases h
        | some ms =>
          rw [e] at h
          cases h
          rw [List.map_cons, List.map_cons, keysI_rv r2 e, r1.1]
          rfl
      | s c => rw [keysI] at h <;> first | cases h | (intros; intro z; cases z)
theorem snf_sortD : SNf K G (fun xs H Q => ∃ (a : Addr) (kvs : List (Key × V)) (ks : List Int), xs = [.ref a] ∧ Rd H a (.dK kvs) ∧ kvs.map (·.1) = ks.map Sum.inl ∧ ks.length < 64 ∧
    ∀ (ys : List Int) (p : Addr), ys.Perm ks → ys.Pairwise (· ≤ ·) → H p = none → Q (.ref p) (upd H p (.lst (ys.map V.int)))) fSortD := fun w xs ds d S' o r hh Q k => by
  unfold fSortD at hh
  split at hh
  · split at hh
    · rename_i l lk kvs g
      obtain ⟨ns, h1, h2⟩ := bnd hh
      split at h2
      · rename_i h64
        cases h2
        obtain ⟨v, rfl, r1⟩ := r.one_of
        obtain ⟨a, ks, rfl, i1, q1, rk, _⟩ := o.dict r1 g
        refine ⟨a, ks, ns, rfl, q1, keysI_rv rk h1, h64, fun ys p hp hu hn => ?_⟩
        rw [sorted_one (hp.trans (sortI_perm ns).symm) hu (sortI_up ns)]
        exact Kf.new k o (RVs.of_ints _) hn
      · cases h2
    · cases hh
  · cases hh
theorem sg_un {n : Nat} {gs : TGs} {egs : EvGs} (h1 : SGs K G gs egs) : SG K G (gUnl K n gs) (gUn n egs) := fun w0 w σ ρ x d ρ' S' s r h Q k => by
  obtain ⟨ds, h2, h3⟩ := bnd h
  split at h3
  · rename_i hl
    obtain ⟨a, vs, rfl, q1, q2⟩ := lstOf_rv s.ok r h2
    exact ⟨a, vs, rfl, SqL.of q1, by rw [q2.length]; exact hl, h1 w0 w σ ρ _ _ ρ' S' s q2 h3 Q k⟩
  · cases h3
end
section
variable {X : Cx}
theorem pgUn (K : PySem.W.Frag) {es : List Expr} {k : Nat} {t : TGs} {n : Nat} {pos : Pos} (hc : X.calm = true) (hs : PGs X es t)
    (hn : (assignEach es X.env).length = n := by rfl) (hst : (assignEach es X.env).findIdx? (·.1) = none := by rfl) (h : X.K = K := by rfl) : PG X (.Tuple es k pos) (gUnl K n t) := by subst h; exact pg_unl hc hs hn hst
end
end AH
set_option maxRecDepth 100000
set_option maxHeartbeats 2000000
namespace AH
open PySem L2 TL PySem.Spec PyProof.Rows
section
variable {K : PySem.W.Frag} {G : Gx} {w : Wd}
structure Mw (w w' : Wd) : Prop where
  io : ∀ l a, w.io l = some a → w'.io l = some a
  hp : ∀ a o, w.H a = some o → NoCel o → ¬ w.Ex a → w'.H a = some o ∧ ¬ w'.Ex a
mutual
theorem RV.monoW {w w' : Wd} (m : Mw w w') : ∀ {v : V} {d : D}, RV K w v d → RV K w' v d
  | _, _, .non => .non
  | _, _, .bl => .bl
  | _, _, .int => .int
  | _, _, .str => .str
  | _, _, .tup h k r => .tup (m.hp _ _ h (fun _ _ => nofun) k).1 (m.hp _ _ h (fun _ _ => nofun) k).2 (RVs.monoW m r)
  | _, _, .lst h k r => .lst (m.hp _ _ h (fun _ _ => nofun) k).1 (m.hp _ _ h (fun _ _ => nofun) k).2 (RVs.monoW m r)
  | _, _, .ref h => .ref (m.io _ _ h)
  | _, _, .raw => .raw
  | _, _, .scr (.inl ⟨o, h, k⟩) => .scr (.inl ⟨o, (m.hp _ _ h (fun _ _ => nofun) k).1, (m.hp _ _ h (fun _ _ => nofun) k).2⟩)
  | _, _, .scr (.inr h) => .scr (.inr h)
  | _, _, .scl h k => .scl (m.hp _ _ h (fun _ _ => nofun) k).1 (m.hp _ _ h (fun _ _ => nofun) k).2
  | _, _, .ex0 => .ex0
  | _, _, .fact h k => .fact (fun l a e => m.io _ _ (h l a e)) (fun a o e c n => m.hp _ _ (k a o e c n).1 c (k a o e c n).2)
  | _, _, .exd h k r => .exd (m.hp _ _ h (fun _ _ => nofun) k).1 (m.hp _ _ h (fun _ _ => nofun) k).2 (RVs.monoW m r)
theorem RVs.monoW {w w' : Wd} (m : Mw w w') : ∀ {v : List V} {d : List D}, RVs K w v d → RVs K w' v d
  | _, _, .nil => .nil
  | _, _, .cons r s => .cons (RV.monoW m r) (RVs.monoW m s)
end
theorem RO.monoW {w w' : Wd} {a : Addr} (m : Mw w w') (e : w'.H a = w.H a) : ∀ {o : MO}, RO K G w a o → RO K G w' a o
  | .lst ds, ⟨vs, h, r⟩ => ⟨vs, by rw [e]; exact h, r.monoW m⟩
  | .dic false kvs, ⟨ks, h, r⟩ => ⟨ks, by show w'.H a = _; rw [e]; exact h, L2.Paired.mapP r fun _ _ q => ⟨q.1, q.2.monoW m⟩⟩
  | .dic true kvs, ⟨ks, ⟨od, h⟩, r⟩ => ⟨ks, ⟨od, by rw [e]; exact h⟩, L2.Paired.mapP r fun _ _ q => ⟨q.1, q.2.monoW m⟩⟩
  | .dit false kvs, ⟨ks, h, r⟩ => ⟨ks, by show w'.H a = _; rw [e]; exact h, L2.Paired.mapP r fun _ _ q => ⟨q.1, q.2.monoW m⟩⟩
  | .dit true kvs, ⟨ks, ⟨od, h⟩, r⟩ => ⟨ks, ⟨od, by rw [e]; exact h⟩, L2.Paired.mapP r fun _ _ q => ⟨q.1, q.2.monoW m⟩⟩
  | .ins c ds, ⟨dx, gs, h, h1, h2, r⟩ => ⟨dx, gs, by rw [e]; exact h, h1, h2, r.monoW m⟩
  | .tab t q, ⟨h0, ps, h, h1, h2⟩ => ⟨h0, ps, by rw [e]; exact h, h1, fun pos cv hc => let ⟨c, e1, e2, e3⟩ := h2 pos cv hc; ⟨c, e1, m.hp _ _ e2 (fun _ _ => nofun) e3⟩⟩
theorem RO.nce {w : Wd} {a : Addr} {ob : Obj} : ∀ {o : MO}, RO K G w a o → w.H a ≠ Option.some (CelO ob a)
  | .lst ds, ⟨vs, h, r⟩, z => by rw [h] at z; cases z
  | .dic false kvs, ⟨ks, h, r⟩, z => by rw [show w.H a = Option.some (.dK ks) from h] at z; cases z
  | .dic true kvs, ⟨ks, ⟨od, h⟩, r⟩, z => by rw [h] at z; cases z
  | .dit false kvs, ⟨ks, h, r⟩, z => by rw [show w.H a = Option.some (.dT ks) from h] at z; cases z
  | .dit true kvs, ⟨ks, ⟨od, h⟩, r⟩, z => by rw [h] at z; cases z
  | .ins c ds, ⟨dx, gs, h, h1, h2, r⟩, z => by rw [h] at z; cases z
  | .tab t q, ⟨h0, ps, h, h1, h2⟩, z => by rw [h] at z; cases z
theorem Mw.put {w : Wd} {l : Nat} {a : Addr} {o : MO} {u : HO} (h : w.io l = some a) : Mw w (w.put l o a u) := ⟨fun _ _ e => e, fun b z e _ k => ⟨by
  show upd w.H a u b = some z
  rw [upd_ne (fun (q : b = a) => k (.inr ⟨l, by rw [q]; exact h⟩))]
  exact e, k⟩⟩
def DK.d : DK → D
  | .i n => .int n
  | .s c => .str c
end
end AH
namespace AH
open PySem L2 TL PySem.Spec PyProof.Rows
end AH
set_option maxRecDepth 100000
set_option maxHeartbeats 2000000
namespace AH
open PySem L2 TL PySem.Spec PyProof.Rows Classical
end AH
set_option maxRecDepth 100000
set_option maxHeartbeats 2000000
namespace AH
open PySem L2 TL
def Sto.nil0 : Sto := ⟨0, fun _ => none⟩
/-- a run ends, and behind it P -/
def W {α : Type} (o : Option (α × Sto)) (P : α → Sto → Prop) : Prop := ∃ a S, o = some (a, S) ∧ P a S
abbrev PS := Fl → Rho → Sto → Prop
def WS (o : Option (Fl × Rho × Sto)) (P : PS) : Prop := ∃ f ρ S, o = some (f, ρ, S) ∧ P f ρ S
section
variable {α β : Type} {P : α → Sto → Prop} {S S1 : Sto} {ρ : Rho} {Q : PS}
theorem W.mono {o : Option (α × Sto)} {P' : α → Sto → Prop} (h : W o P) (k : ∀ a S, P a S → P' a S) : W o P' := by
  obtain ⟨a, S, e, p⟩ := h
  exact ⟨a, S, e, k a S p⟩
theorem WS.mono {o : Option (Fl × Rho × Sto)} {Q' : PS} (h : WS o Q) (k : ∀ f ρ S, Q f ρ S → Q' f ρ S) : WS o Q' := by
  obtain ⟨a, r, S, e, p⟩ := h
  exact ⟨a, r, S, e, k a r S p⟩
theorem w_ret {a : α} (h : P a S) : W (some (a, S)) P := ⟨a, S, rfl, h⟩
theorem w_bind {o : Option (β × Sto)} {f : β × Sto → Option (α × Sto)} (h : W o fun b S1 => W (f (b, S1)) P) : W (o.bind f) P := by
  obtain ⟨b, S1, rfl, a, S2, e, p⟩ := h
  exact ⟨a, S2, e, p⟩
theorem ws_bind {o : Option (β × Sto)} {f : β × Sto → Option (Fl × Rho × Sto)} (h : W o fun b S1 => WS (f (b, S1)) Q) : WS (o.bind f) Q := by
  obtain ⟨b, S1, rfl, a, r, S2, e, p⟩ := h
  exact ⟨a, r, S2, e, p⟩
theorem we_var {i : Nat} {d : D} {P : D → Sto → Prop} (e : ρ[i]? = some (.val d)) (h : P d S) : W (eVar i ρ S) P := by
  refine ⟨d, S, ?_, h⟩
  unfold eVar
  rw [e]
theorem we_c {d : D} {P : D → Sto → Prop} (h : P d S) : W (eC d ρ S) P := w_ret h
theorem we_2 {f : D → D → Sto → Option (α × Sto)} {a b : Ev} (h : W (a ρ S) fun x S1 => W (b ρ S1) fun y S2 => W (f x y S2) P) : W (e2 f a b ρ S) P :=
  w_bind (h.mono fun _ _ q => w_bind q)
theorem we_1 {f : D → Sto → Option (α × Sto)} {a : Ev} (h : W (a ρ S) fun x S1 => W (f x S1) P) : W (e1 f a ρ S) P := w_bind h
theorem we_n {f : List D → Sto → Option (α × Sto)} {a : EvL} (h : W (a ρ S) fun x S1 => W (f x S1) P) : W (eN f a ρ S) P := w_bind h
theorem we_3 {f : D → Option Int → Option Int → Sto → Option (α × Sto)} {a : Ev} {b c : EvO} (h : W (a ρ S) fun x S1 => W (b ρ S1) fun y S2 => W (c ρ S2) fun z S3 => W (f x y z S3) P) : W (e3 f a b c ρ S) P :=
  w_bind (h.mono fun _ _ q => w_bind (q.mono fun _ _ q => w_bind q))
theorem wo_none {P : Option Int → Sto → Prop} (h : P none S) : W (oNone ρ S) P := w_ret h
theorem wo_some {P : Option Int → Sto → Prop} {a : Ev} (h : W (a ρ S) fun x S1 => ∃ i, x = .int i ∧ P (some i) S1) : W (oSome a ρ S) P :=
  w_bind (h.mono fun x S1 ⟨i, e, p⟩ => by
    subst e
    exact w_ret p)
theorem wl_nil {P : List D → Sto → Prop} (h : P [] S) : W (aNil ρ S) P := w_ret h
theorem wl_cons {P : List D → Sto → Prop} {a : Ev} {b : EvL} (h : W (a ρ S) fun x S1 => W (b ρ S1) fun y S2 => P (x :: y) S2) : W (aCons a b ρ S) P :=
  w_bind (h.mono fun _ _ q => w_bind (q.mono fun _ _ q => w_ret q))
theorem we_V {P : D → Sto → Prop} {a : EvL} (h : W (a ρ S) fun x S1 => P (.lst x) S1) : W (eV a ρ S) P := w_bind (h.mono fun _ _ q => w_ret q)
theorem we_own {P : D → Sto → Prop} {a : EvL} (h : W (a ρ S) fun x S1 => P (.ref S1.next) (S1.new (.lst x))) : W (eOwn a ρ S) P := w_bind (h.mono fun _ _ q => w_ret q)
theorem we_tup {P : D → Sto → Prop} {a : EvL} (h : W (a ρ S) fun x S1 => x.length ≤ 16777216 ∧ P (.tup x) S1) : W (eTup a ρ S) P := w_bind (h.mono fun x S1 ⟨q, p⟩ => by
  show W (if x.length ≤ sizeLine then some (.tup x, S1) else none) P
  rw [if_pos (by rw [sizeLine_eq]; exact q)]
  exact w_ret p)
theorem wl_lst {P : List D → Sto → Prop} {a : EvL} (h : W (a ρ S) fun x S1 => x.length ≤ 16777216 ∧ P x S1) : W (fLst a ρ S) P := w_bind (h.mono fun x S1 ⟨q, p⟩ => by
  show W (if x.length ≤ sizeLine then some (x, S1) else none) P
  rw [if_pos (by rw [sizeLine_eq]; exact q)]
  exact w_ret p)
theorem wt_of {P : Bool → Sto → Prop} {a : Ev} (h : W (a ρ S) fun x S1 => ∃ b, x = .bl b ∧ P b S1) : W (tOf a ρ S) P :=
  w_bind (h.mono fun x S1 ⟨i, e, p⟩ => by
    subst e
    exact w_ret p)
theorem wt_or {P : Bool → Sto → Prop} {a b : EvT} (h : W (a ρ S) fun x S1 => (x = true → P true S1) ∧ (x = false → W (b ρ S1) P)) : W (tOrE a b ρ S) P :=
  w_bind (h.mono fun x S1 ⟨p, q⟩ => by
    cases x with
    | true => exact w_ret (p rfl)
    | false => exact q rfl)
theorem wt_and {P : Bool → Sto → Prop} {a b : EvT} (h : W (a ρ S) fun x S1 => (x = false → P false S1) ∧ (x = true → W (b ρ S1) P)) : W (tAndE a b ρ S) P :=
  w_bind (h.mono fun x S1 ⟨p, q⟩ => by
    cases x with
    | false => exact w_ret (p rfl)
    | true => exact q rfl)
theorem wt_not {P : Bool → Sto → Prop} {a : EvT} (h : W (a ρ S) fun x S1 => P (!x) S1) : W (tNotE a ρ S) P := w_bind (h.mono fun _ _ q => w_ret q)
theorem we_and {P : D → Sto → Prop} {a b : Ev} (h : W (a ρ S) fun x S1 => ∃ c, x = .bl c ∧ (c = false → P (.bl false) S1) ∧ (c = true → W (b ρ S1) P)) : W (eAndE a b ρ S) P :=
  w_bind (h.mono fun x S1 ⟨c, e, p, q⟩ => by
    subst e
    cases c with
    | false => exact w_ret (p rfl)
    | true => exact q rfl)
theorem we_or {P : D → Sto → Prop} {a b : Ev} (h : W (a ρ S) fun x S1 => ∃ c, x = .bl c ∧ (c = true → P (.bl true) S1) ∧ (c = false → W (b ρ S1) P)) : W (eOrE a b ρ S) P :=
  w_bind (h.mono fun x S1 ⟨c, e, p, q⟩ => by
    subst e
    cases c with
    | true => exact w_ret (p rfl)
    | false => exact q rfl)
theorem we_not {P : D → Sto → Prop} {a : Ev} (h : W (a ρ S) fun x S1 => ∃ c, x = .bl c ∧ P (.bl (!c)) S1) : W (eNotE a ρ S) P :=
  w_bind (h.mono fun x S1 ⟨c, e, p⟩ => by
    subst e
    exact w_ret p)
theorem we_if {P : D → Sto → Prop} {t : EvT} {a b : Ev} (h : W (t ρ S) fun c S1 => (c = true → W (a ρ S1) P) ∧ (c = false → W (b ρ S1) P)) : W (eIf t a b ρ S) P :=
  w_bind (h.mono fun x S1 ⟨p, q⟩ => by
    cases x with
    | true => exact p rfl
    | false => exact q rfl)
def isNon : D → Option Bool
  | .non => some true
  | .raw _ => none
  | _ => some false
theorem we_isN {P : D → Sto → Prop} {a : Ev} (h : W (a ρ S) fun x S1 => ∃ c, isNon x = some c ∧ P (.bl c) S1) : W (eIsN a ρ S) P :=
  w_bind (h.mono fun x S1 ⟨c, e, p⟩ => by
    cases x <;> cases e <;> exact w_ret p)
theorem we_notN {P : D → Sto → Prop} {a : Ev} (h : W (a ρ S) fun x S1 => ∃ c, isNon x = some c ∧ P (.bl (!c)) S1) : W (eNotN a ρ S) P :=
  w_bind (h.mono fun x S1 ⟨c, e, p⟩ => by
    cases x <;> cases e <;> exact w_ret p)
theorem we_chain {P : D → Sto → Prop} {f g : D → D → Sto → Option (D × Sto)} {a b c : Ev} (h : W (a ρ S) fun x S1 => W (b ρ S1) fun y S2 => W (f x y S2) fun z S3 => ∃ k, z = .bl k ∧ (k = false → P (.bl false) S3) ∧ (k = true → W (c ρ S3) fun u S4 => W (g y u S4) P)) : W (eChain f g a b c ρ S) P :=
  w_bind (h.mono fun _ _ q => w_bind (q.mono fun _ _ q => w_bind (q.mono fun z S3 ⟨k, e, p, q⟩ => by
    subst e
    cases k with
    | false => exact w_ret (p rfl)
    | true => exact w_bind (q rfl))))
def nxt (b : EvS) (Q : PS) : PS := fun f ρ S => match f with
  | .nx => WS (b ρ S) Q
  | f => Q f ρ S
theorem ws_next (h : Q .nx ρ S) : WS (sNext ρ S) Q := ⟨_, _, _, rfl, h⟩
theorem ws_brk (h : Q .bk ρ S) : WS (sBrk ρ S) Q := ⟨_, _, _, rfl, h⟩
theorem ws_cnt (h : Q .ct ρ S) : WS (sCnt ρ S) Q := ⟨_, _, _, rfl, h⟩
theorem ws_seq {a b : EvS} (h : WS (a ρ S) (nxt b Q)) : WS (sSeq a b ρ S) Q := by
  obtain ⟨f, ρ1, S1, e, p⟩ := h
  unfold sSeq
  rw [e]
  cases f with
  | nx => exact p
  | bk => exact ⟨_, _, _, rfl, p⟩
  | ct => exact ⟨_, _, _, rfl, p⟩
  | rt d => exact ⟨_, _, _, rfl, p⟩
  | rf ds => exact ⟨_, _, _, rfl, p⟩
theorem ws_if {t : EvT} {a b : EvS} (h : W (t ρ S) fun c S1 => (c = true → WS (a ρ S1) Q) ∧ (c = false → WS (b ρ S1) Q)) : WS (sIf t a b ρ S) Q :=
  ws_bind (h.mono fun x S1 ⟨p, q⟩ => by
    cases x with
    | true => exact p rfl
    | false => exact q rfl)
theorem ws_do {e : Ev} (h : W (e ρ S) fun _ S1 => Q .nx ρ S1) : WS (sDo e ρ S) Q := ws_bind (h.mono fun _ _ q => ⟨_, _, _, rfl, q⟩)
theorem ws_ret {e : Ev} (h : W (e ρ S) fun d S1 => Q (.rt d) ρ S1) : WS (sRet e ρ S) Q := ws_bind (h.mono fun _ _ q => ⟨_, _, _, rfl, q⟩)
theorem ws_retN (h : Q (.rt .non) ρ S) : WS (sRetN ρ S) Q := ⟨_, _, _, rfl, h⟩
theorem ws_retF {e : EvL} (h : W (e ρ S) fun d S1 => Q (.rf d) ρ S1) : WS (sRetF e ρ S) Q := ws_bind (h.mono fun _ _ q => ⟨_, _, _, rfl, q⟩)
theorem ws_retA {i : Nat} {ds : List D} (e : ρ[i]? = some (.acc ds)) (h : Q (.rf ds) ρ S) : WS (sRetA i ρ S) Q := by
  refine ⟨_, _, _, ?_, h⟩
  unfold sRetA
  rw [e]
/-- into a name -/
theorem ws_set {e : Ev} {i : Nat} (h : W (e ρ S) fun d S1 => i < ρ.length ∧ Q .nx (ρ.set i (.val d)) S1) : WS (sAsg e (gNm i) ρ S) Q := ws_bind (h.mono fun d S1 ⟨l, q⟩ => by
  refine ⟨.nx, ρ.set i (.val d), S1, ?_, q⟩
  show ((gNm i d ρ S1).bind _) = _
  unfold gNm
  rw [if_pos l]
  rfl)
theorem ws_asg {e : Ev} {g : EvG} (h : W (e ρ S) fun d S1 => W ((g d ρ S1)) fun ρ' S2 => Q .nx ρ' S2) : WS (sAsg e g ρ S) Q := ws_bind (h.mono fun d S1 q => ws_bind (q.mono fun _ _ p => ⟨_, _, _, rfl, p⟩))
theorem wg_nm {i : Nat} {d : D} {P : Rho → Sto → Prop} (l : i < ρ.length) (h : P (ρ.set i (.val d)) S) : W (gNm i d ρ S) P := by
  refine ⟨_, _, ?_, h⟩
  unfold gNm
  rw [if_pos l]
theorem ws_acc {e : EvL} {i : Nat} (h : W (e ρ S) fun d S1 => i < ρ.length ∧ Q .nx (ρ.set i (.acc d)) S1) : WS (sAcc i e ρ S) Q := ws_bind (h.mono fun d S1 ⟨l, q⟩ => by
  refine ⟨.nx, ρ.set i (.acc d), S1, ?_, q⟩
  show (if i < ρ.length then _ else _) = _
  rw [if_pos l])
theorem ws_frz {i : Nat} {ds : List D} {s : EvS} (e : ρ[i]? = some (.acc ds)) (h : WS (s (ρ.set i (.val (.lst ds))) S) Q) : WS (sFrz i s ρ S) Q := by
  have z : frz i ρ = ρ.set i (.val (.lst ds)) := by
    unfold frz
    rw [e]
  show WS (s (frz i ρ) S) Q
  rw [z]
  exact h
theorem ws_frz0 {i : Nat} {d : D} {s : EvS} (e : ρ[i]? = some (.val d)) (h : WS (s ρ S) Q) : WS (sFrz i s ρ S) Q := by
  have z : frz i ρ = ρ := by
    unfold frz
    rw [e]
  show WS (s (frz i ρ) S) Q
  rw [z]
  exact h
theorem ws_app {e : Ev} {i : Nat} {ds : List D} (q : ρ[i]? = some (.acc ds)) (h : W (e ρ S) fun d S1 => ds.length < 16777216 ∧ Q .nx (ρ.set i (.acc (ds ++ [d]))) S1) : WS (sApp i e ρ S) Q := ws_bind (h.mono fun d S1 ⟨l, k⟩ => by
  refine ⟨.nx, ρ.set i (.acc (ds ++ [d])), S1, ?_, k⟩
  dsimp only
  rw [q]
  exact if_pos (by rw [sizeLine_eq]; exact l))
theorem ws_extend {e : EvL} {i : Nat} {ds : List D} (q : ρ[i]? = some (.acc ds)) (h : W (e ρ S) fun d S1 => ds.length + d.length ≤ 16777216 ∧ Q .nx (ρ.set i (.acc (ds ++ d))) S1) : WS (sExtend i e ρ S) Q := ws_bind (h.mono fun d S1 ⟨l, k⟩ => by
  refine ⟨.nx, ρ.set i (.acc (ds ++ d)), S1, ?_, k⟩
  dsimp only
  rw [q]
  exact if_pos (by rw [sizeLine_eq]; exact l))
theorem ws_par {i j : Nat} {a b : Ev} (h : W (a ρ S) fun x S1 => W (b ρ S1) fun y S2 => (i < ρ.length ∧ j < ρ.length) ∧ Q .nx ((ρ.set i (.val x)).set j (.val y)) S2) : WS (sPar i j a b ρ S) Q := ws_bind (h.mono fun x S1 q => ws_bind (q.mono fun y S2 ⟨l, k⟩ => ⟨.nx, _, S2, if_pos l, k⟩))
theorem ws_for {it : EvL} {g : EvG} {b : EvS} (h : W (it ρ S) fun ds S1 => WS (forL g b ds ρ S1) Q) : WS (sFor it g b ρ S) Q := ws_bind h
/-- behind a body: on, or out -/
def lp (I : Rho → Sto → Prop) (Q : PS) : PS := fun f ρ S => match f with
  | .nx => I ρ S
  | .ct => I ρ S
  | .bk => Q .nx ρ S
  | f => Q f ρ S
theorem forL_from {g : EvG} {b : EvS} {all : List D} (I : Nat → Rho → Sto → Prop) (step : ∀ k d ρ S, all[k]? = some d → I k ρ S → W (g d ρ S) fun ρ1 S1 => WS (b ρ1 S1) (lp (I (k + 1)) Q)) (fin : ∀ ρ S, I all.length ρ S → Q .nx ρ S) :
    ∀ (ds : List D) (k : Nat) ρ S, all.drop k = ds → k ≤ all.length → I k ρ S → WS (forL g b ds ρ S) Q
  | [], k, ρ, S, e, hk, i => by
    have l : all.length ≤ k := List.drop_eq_nil_iff.mp e
    have e2 : k = all.length := by omega
    subst e2
    exact ⟨_, _, _, rfl, fin ρ S i⟩
  | d :: ds, k, ρ, S, e, hk, i => by
    have hd : all[k]? = some d := by
      have z := congrArg (·[0]?) e
      simpa using z
    have lt : k < all.length := (List.getElem?_eq_some_iff.mp hd).1
    have e2 : all.drop (k + 1) = ds := by
      rw [← List.tail_drop, e]
      rfl
    obtain ⟨ρ1, S1, e1, f, ρ2, S2, e3, p⟩ := step k d ρ S hd i
    unfold forL
    rw [e1]
    dsimp only
    rw [e3]
    cases f with
    | nx => exact forL_from I step fin ds (k + 1) ρ2 S2 e2 lt p
    | ct => exact forL_from I step fin ds (k + 1) ρ2 S2 e2 lt p
    | bk => exact ⟨_, _, _, rfl, p⟩
    | rt d => exact ⟨_, _, _, rfl, p⟩
    | rf ds => exact ⟨_, _, _, rfl, p⟩
theorem ws_loop {g : EvG} {b : EvS} {all : List D} (I : Nat → Rho → Sto → Prop) (i0 : I 0 ρ S) (step : ∀ k d ρ S, all[k]? = some d → I k ρ S → W (g d ρ S) fun ρ1 S1 => WS (b ρ1 S1) (lp (I (k + 1)) Q)) (fin : ∀ ρ S, I all.length ρ S → Q .nx ρ S) : WS (forL g b all ρ S) Q :=
  forL_from I step fin all 0 ρ S rfl (Nat.zero_le _) i0
theorem wi_L {a : Ev} {P : List D → Sto → Prop} (h : W (a ρ S) fun x S1 => (∃ ds, x = .lst ds ∧ P ds S1) ∨ ∃ ns : List Int, x = .scr ns ∧ P (ns.map D.int) S1) : W (iL a ρ S) P := w_bind (h.mono fun x S1 q => by
  rcases q with ⟨ds, e, p⟩ | ⟨ds, e, p⟩
  · subst e
    exact w_ret p
  · subst e
    exact w_ret p)
theorem wi_T {a : Ev} {P : List D → Sto → Prop} (h : W (a ρ S) fun x S1 => (∃ ds, x = .tup ds ∧ P ds S1)) : W (iT a ρ S) P := w_bind (h.mono fun x S1 q => by
  obtain ⟨ds, e, p⟩ := q
  subst e
  exact w_ret p)
theorem wi_S {a : Ev} {P : List D → Sto → Prop} (h : W (a ρ S) fun x S1 => (∃ ds, x = .str ds ∧ P (chars ds) S1)) : W (iS a ρ S) P := w_bind (h.mono fun x S1 q => by
  obtain ⟨ds, e, p⟩ := q
  subst e
  exact w_ret p)
theorem wi_R1 {a : EvL} {P : List D → Sto → Prop} (h : W (a ρ S) fun x S1 => ∃ j : Int, x = [.int j] ∧ (-1000000000 ≤ j ∧ j ≤ 1000000000) ∧ P (rng 0 j.toNat) S1) : W (iR1 a ρ S) P := w_bind (h.mono fun x S1 ⟨j, e, l, p⟩ => by
  subst e
  exact ⟨_, _, if_pos l, p⟩)
theorem wi_R2 {a : EvL} {P : List D → Sto → Prop} (h : W (a ρ S) fun x S1 => ∃ i j : Int, x = [.int i, .int j] ∧ (-1000000000 ≤ i ∧ i ≤ 1000000000 ∧ -1000000000 ≤ j ∧ j ≤ 1000000000) ∧ P (rng i (j - i).toNat) S1) : W (iR2 a ρ S) P := w_bind (h.mono fun x S1 ⟨i, j, e, l, p⟩ => by
  subst e
  exact ⟨_, _, if_pos l, p⟩)
theorem wi_R3 {a : EvL} {P : List D → Sto → Prop} (h : W (a ρ S) fun x S1 => ∃ i j c : Int, x = [.int i, .int j, .int c] ∧ (0 ≤ i ∧ i ≤ 1000000000 ∧ 0 ≤ j ∧ j ≤ 1000000000 ∧ 0 < c ∧ c ≤ 1000000) ∧ P (rng3 i c (rn3 i j c)) S1) : W (iR3 a ρ S) P := w_bind (h.mono fun x S1 ⟨i, j, c, e, l, p⟩ => by
  subst e
  exact ⟨_, _, if_pos l, p⟩)
theorem wi_E {a : EvL} {P : List D → Sto → Prop} (h : W (a ρ S) fun x S1 => ∃ ds, x = [.lst ds] ∧ P (enumD ds) S1) : W (iE a ρ S) P := w_bind (h.mono fun x S1 ⟨ds, e, p⟩ => by
  subst e
  exact w_ret p)
theorem rng_get {lo : Int} {n k : Nat} {d : D} (h : (rng lo n)[k]? = some d) : d = .int (lo + (k : Nat)) ∧ k < n := by
  unfold rng at h
  rw [List.getElem?_map] at h
  cases e : (List.range n)[k]? with
  | none => rw [e] at h; cases h
  | some j =>
    rw [e] at h
    cases h
    have l : k < n := by
      have z := (List.getElem?_eq_some_iff.mp e).1
      simpa using z
    rw [List.getElem?_range l] at e
    cases e
    exact ⟨rfl, l⟩
theorem rng_len {lo : Int} {n : Nat} : (rng lo n).length = n := by
  unfold rng
  simp
theorem lcC_from {g : EvP} {t : EvT} {e : Ev} {all : List D} {P : List D → Sto → Prop} (I : Nat → List D → Sto → Prop) (step : ∀ k d out S, all[k]? = some d → I k out S → ∃ ρ1, g d ρ = some ρ1 ∧ W (t ρ1 S) fun c S1 => (c = false → I (k + 1) out S1) ∧ (c = true → W (e ρ1 S1) fun x S2 => I (k + 1) (out ++ [x]) S2)) :
    ∀ (ds : List D) (k : Nat) out S, all.drop k = ds → k ≤ all.length → I k out S → (∀ out S, I all.length out S → P out S) → W (lcC g t e ρ ds S) fun r S1 => P (out ++ r) S1
  | [], k, out, S, eq, hk, i, fin => by
    have l : all.length ≤ k := List.drop_eq_nil_iff.mp eq
    have e2 : k = all.length := by omega
    subst e2
    refine ⟨_, _, rfl, ?_⟩
    show P (out ++ []) S
    rw [List.append_nil]
    exact fin out S i
  | d :: ds, k, out, S, eq, hk, i, fin => by
    have hd : all[k]? = some d := by
      have z := congrArg (·[0]?) eq
      simpa using z
    have lt : k < all.length := (List.getElem?_eq_some_iff.mp hd).1
    have e2 : all.drop (k + 1) = ds := by
      rw [← List.tail_drop, eq]
      rfl
    obtain ⟨ρ1, e1, c, S1, e3, h1, h2⟩ := step k d out S hd i
    unfold lcC
    rw [e1]
    simp only [Option.bind_some]
    rw [e3]
    simp only [Option.bind_some]
    cases c with
    | false => exact lcC_from I step ds (k + 1) out S1 e2 lt (h1 rfl) fin
    | true =>
      obtain ⟨x, S2, e4, p⟩ := h2 rfl
      obtain ⟨r, S3, e5, q⟩ := lcC_from I step ds (k + 1) (out ++ [x]) S2 e2 lt p fin
      refine ⟨x :: r, S3, ?_, ?_⟩
      · simp only [if_true, e4, Option.bind_some, e5]
      · have z : out ++ x :: r = out ++ [x] ++ r := by simp
        show P (out ++ x :: r) S3
        rw [z]
        exact q
theorem wl_lc {it : EvL} {vs : List Nat} {g : EvP} {t : EvT} {e : Ev} {P : List D → Sto → Prop} (h : W (it ρ S) fun all S1 => ∃ I : Nat → List D → Sto → Prop, I 0 [] S1 ∧ (∀ k d out S, all[k]? = some d → I k out S → ∃ ρ1, g d (wipeR ρ vs) = some ρ1 ∧ W (t ρ1 S) fun c S1 => (c = false → I (k + 1) out S1) ∧ (c = true → W (e ρ1 S1) fun x S2 => I (k + 1) (out ++ [x]) S2)) ∧ ∀ out S, I all.length out S → out.length ≤ 16777216 ∧ P out S) : W (fLc it vs g t e ρ S) P :=
  w_bind (h.mono fun all S1 ⟨I, i0, step, fin⟩ => by
    obtain ⟨r, S2, e1, q⟩ := lcC_from (P := fun out S => out.length ≤ 16777216 ∧ P out S) I step all 0 [] S1 rfl (Nat.zero_le _) i0 fin
    refine ⟨r, S2, ?_, q.2⟩
    show ((lcC g t e (wipeR ρ vs) all S1).bind _) = _
    rw [e1]
    exact if_pos (by rw [sizeLine_eq]; exact q.1))
theorem wt_yes {P : Bool → Sto → Prop} (h : P true S) : W (tYesE ρ S) P := w_ret h
theorem we_call {F : Fn} {ds : List D} {P : D → Sto → Prop} (h : W (F ds S) fun o S1 => match o with | .v d => P d S1 | .f es => P (.lst es) S1) : W (callE F ds S) P := w_bind (h.mono fun o S1 q => by
  cases o with
  | v d => exact w_ret q
  | f es => exact w_ret q)
theorem we_callF {F : Fn} {ds : List D} {P : List D → Sto → Prop} (h : W (F ds S) fun o S1 => ∃ es, o = .f es ∧ P es S1) : W (callF F ds S) P := w_bind (h.mono fun o S1 ⟨es, e, q⟩ => by
  subst e
  exact w_ret q)
def endP (P : Out → Sto → Prop) : PS := fun f _ S => match f with
  | .nx => P (.v .non) S
  | .rt d => P (.v d) S
  | .rf ds => P (.f ds) S
  | _ => False
theorem w_run {n m : Nat} {b : EvS} {ds : List D} {P : Out → Sto → Prop} (hl : ds.length = n) (h : WS (b (rho0 m ds) S) (endP P)) : W (runB n m b ds S) P := by
  obtain ⟨f, ρ', S1, e, p⟩ := h
  unfold runB
  rw [if_pos hl, e]
  cases f with
  | nx => exact ⟨_, _, rfl, p⟩
  | rt d => exact ⟨_, _, rfl, p⟩
  | rf ds => exact ⟨_, _, rfl, p⟩
  | bk => exact absurd p id
  | ct => exact absurd p id
theorem wo_add {i j : Int} {P : D → Sto → Prop} (h : P (.int (i + j)) S) : W (fAdd (.int i) (.int j) S) P := w_ret h
theorem wo_addS {x y : List Nat} {P : D → Sto → Prop} (l : x.length + y.length ≤ 16777216) (h : P (.str (x ++ y)) S) : W (fAdd (.str x) (.str y) S) P := ⟨_, _, if_pos (by rw [sizeLine_eq]; exact l), h⟩
theorem wo_sub {i j : Int} {P : D → Sto → Prop} (h : P (.int (i - j)) S) : W (fSub (.int i) (.int j) S) P := w_ret h
theorem wo_neg {i : Int} {P : D → Sto → Prop} (h : P (.int (-i)) S) : W (fNeg (.int i) S) P := w_ret h
theorem wo_cmp {p : Int → Int → Bool} {i j : Int} {P : D → Sto → Prop} (h : P (.bl (p i j)) S) : W (fCmp p (.int i) (.int j) S) P := w_ret h
theorem wo_eqI {i j : Int} {P : D → Sto → Prop} (h : P (.bl (decide (i = j))) S) : W (fEq (.int i) (.int j) S) P := w_ret h
theorem wo_neI {i j : Int} {P : D → Sto → Prop} (h : P (.bl (!decide (i = j))) S) : W (fNe (.int i) (.int j) S) P := w_ret h
theorem wo_eqS {i j : List Nat} {P : D → Sto → Prop} (h : P (.bl (decide (i = j))) S) : W (fEq (.str i) (.str j) S) P := w_ret h
theorem wo_neS {i j : List Nat} {P : D → Sto → Prop} (h : P (.bl (!decide (i = j))) S) : W (fNe (.str i) (.str j) S) P := w_ret h
theorem wo_eqB {i j : Bool} {P : D → Sto → Prop} (h : P (.bl (decide (i = j))) S) : W (fEq (.bl i) (.bl j) S) P := w_ret h
theorem wo_neB {i j : Bool} {P : D → Sto → Prop} (h : P (.bl (!decide (i = j))) S) : W (fNe (.bl i) (.bl j) S) P := w_ret h
theorem wo_len {z : List Nat} {P : D → Sto → Prop} (l : z.length ≤ 16777216) (h : P (.int z.length) S) : W (fLen [.str z] S) P := ⟨_, _, if_pos (by rw [sizeLine_eq]; exact l), h⟩
theorem wo_lenL {ds : List D} {P : D → Sto → Prop} (h : P (.int ds.length) S) : W (fLen [.lst ds] S) P := w_ret h
theorem wo_lenT {ds : List D} {P : D → Sto → Prop} (h : P (.int ds.length) S) : W (fLen [.tup ds] S) P := w_ret h
theorem wo_lenC {ds : List Int} {P : D → Sto → Prop} (h : P (.int ds.length) S) : W (fLen [.scr ds] S) P := w_ret h
theorem wo_lenR {l : Nat} {ds : List D} {P : D → Sto → Prop} (g : S.get l = some (.lst ds)) (h : P (.int ds.length) S) : W (fLen [.ref l] S) P := by
  refine ⟨_, _, ?_, h⟩
  simp [fLen, seqOf, lstOf, g]
theorem wo_max {i j : Int} {P : D → Sto → Prop} (h : P (.int (if j > i then j else i)) S) : W (fMax2 [.int i, .int j] S) P := w_ret h
theorem wo_min {i j : Int} {P : D → Sto → Prop} (h : P (.int (if j < i then j else i)) S) : W (fMin2 [.int i, .int j] S) P := w_ret h
theorem wo_slS {z : List Nat} {lo hi : Option Int} {P : D → Sto → Prop} (l : z.length ≤ 16777216) (h : P (.str (cutL z lo hi)) S) : W (fSl (.str z) lo hi S) P := ⟨_, _, if_pos (by rw [sizeLine_eq]; exact l), h⟩
theorem wo_slL {ds : List D} {lo hi : Option Int} {P : List D → Sto → Prop} (h : P (cutL ds lo hi) S) : W (fSlL (.lst ds) lo hi S) P := w_ret h
theorem wo_cat {x y : List D} {P : List D → Sto → Prop} (l : x.length + y.length ≤ 16777216) (h : P (x ++ y) S) : W (fCat (.lst x) (.lst y) S) P := ⟨_, _, if_pos (by rw [sizeLine_eq]; exact l), h⟩
theorem wo_isT {d : D} {T n : String} {P : D → Sto → Prop} (o : okT T = true) (e : tyName S d = some n) (h : P (.bl (isT T n)) S) : W (fIsT [d, .raw (.ty T)] S) P := by
  refine ⟨_, _, ?_, h⟩
  simp [fIsT, o, e]
theorem atI_nat {α : Type} {xs : List α} {i : Int} {a : α} (h0 : 0 ≤ i) (h : xs[i.toNat]? = some a) : atI xs i = some a := by
  have lt := (List.getElem?_eq_some_iff.mp h).1
  have e : ixN xs.length i = some i.toNat := by
    unfold ixN
    rw [if_pos h0, if_pos (by omega)]
  unfold atI
  rw [e]
  exact h
theorem wo_ixL {ds : List D} {i : Int} {d : D} {P : D → Sto → Prop} (h0 : 0 ≤ i) (e : ds[i.toNat]? = some d) (h : P d S) : W (fIx (.lst ds) (.int i) S) P := by
  refine ⟨_, _, ?_, h⟩
  simp [fIx, seqOf, lstOf, atI_nat h0 e]
theorem wo_ixR {l : Nat} {ds : List D} {i : Int} {d : D} {P : D → Sto → Prop} (g : S.get l = some (.lst ds)) (h0 : 0 ≤ i) (e : ds[i.toNat]? = some d) (h : P d S) : W (fIx (.ref l) (.int i) S) P := by
  refine ⟨_, _, ?_, h⟩
  simp [fIx, seqOf, lstOf, g, atI_nat h0 e]
theorem wo_ixT {ds : List D} {i : Int} {d : D} {P : D → Sto → Prop} (h0 : 0 ≤ i) (e : ds[i.toNat]? = some d) (h : P d S) : W (fIx (.tup ds) (.int i) S) P := by
  refine ⟨_, _, ?_, h⟩
  simp [fIx, seqOf, atI_nat h0 e]
theorem wo_ixS {z : List Nat} {i : Int} {c : Nat} {P : D → Sto → Prop} (l : z.length ≤ 16777216) (h0 : 0 ≤ i) (e : z[i.toNat]? = some c) (h : P (.str [c]) S) : W (fIx (.str z) (.int i) S) P := by
  refine ⟨_, _, ?_, h⟩
  simp [fIx, atI_nat h0 e, sizeLine_eq, l]
theorem wo_mul {i j : Int} {P : D → Sto → Prop} (l : (-(2 ^ 64) < i ∧ i < 2 ^ 64) ∨ (-(2 ^ 64) < j ∧ j < 2 ^ 64)) (h : P (.int (i * j)) S) : W (fMul (.int i) (.int j) S) P := ⟨_, _, if_pos (by unfold mulOk; exact decide_eq_true l), h⟩
theorem wo_div {i j : Int} {P : D → Sto → Prop} (l : 0 < j ∧ j < 1073741824) (h : P (.int (i / j)) S) : W (fDiv (.int i) (.int j) S) P := ⟨_, _, if_pos l, h⟩
theorem wo_mod {i j : Int} {P : D → Sto → Prop} (l : 0 < j) (h : P (.int (i % j)) S) : W (fMod (.int i) (.int j) S) P := ⟨_, _, if_pos l, h⟩
theorem wo_listC {ns : List Int} {P : List D → Sto → Prop} (h : P (ns.map D.int) S) : W (fListOf [.scr ns] S) P := w_ret h
theorem wo_listL {ds : List D} {P : List D → Sto → Prop} (h : P ds S) : W (fListOf [.lst ds] S) P := w_ret h
theorem wo_listT {ds : List D} {P : List D → Sto → Prop} (h : P ds S) : W (fListOf [.tup ds] S) P := w_ret h
theorem wo_listR {l : Nat} {ds : List D} {P : List D → Sto → Prop} (g : S.get l = some (.lst ds)) (h : P ds S) : W (fListOf [.ref l] S) P := by
  refine ⟨_, _, ?_, h⟩
  simp [fListOf, seqOf, lstOf, g]
theorem wo_slR {l : Nat} {ds : List D} {lo hi : Option Int} {P : List D → Sto → Prop} (g : S.get l = some (.lst ds)) (h : P (cutL ds lo hi) S) : W (fSlL (.ref l) lo hi S) P := by
  refine ⟨_, _, ?_, h⟩
  simp [fSlL, lstOf, g]
theorem wo_tupT {ds : List D} {P : D → Sto → Prop} (h : P (.tup ds) S) : W (fTupOf [.tup ds] S) P := w_ret h
theorem wo_tupL {ds : List D} {P : D → Sto → Prop} (h : P (.tup ds) S) : W (fTupOf [.lst ds] S) P := w_ret h
theorem wo_intI {i : Int} {P : D → Sto → Prop} (h : P (.int i) S) : W (fInt [.int i] S) P := w_ret h
theorem wo_intB {b : Bool} {P : D → Sto → Prop} (h : P (.int (if b then 1 else 0)) S) : W (fInt [.bl b] S) P := w_ret h
theorem wo_strI {n : Int} {P : D → Sto → Prop} (l : 0 ≤ n ∧ n < 10 ^ 30) (h : P (.str (numL n.toNat)) S) : W (fStr [.int n] S) P := ⟨_, _, if_pos l, h⟩
theorem wo_strS {z : List Nat} {P : D → Sto → Prop} (h : P (.str z) S) : W (fStr [.str z] S) P := w_ret h
theorem wo_inS {c : Nat} {z : List Nat} {P : D → Sto → Prop} (h : P (.bl (decide (c ∈ z))) S) : W (fInS (.str [c]) (.str z) S) P := w_ret h
theorem wo_ninS {c : Nat} {z : List Nat} {P : D → Sto → Prop} (h : P (.bl (!decide (c ∈ z))) S) : W (fNotInS (.str [c]) (.str z) S) P := w_ret h
/-- a list of the store: an item stored, and the methods -/
theorem wg_sb {eo ei : Ev} {d : D} {P : Rho → Sto → Prop} (h : W (eo ρ S) fun x S1 => W (ei ρ S1) fun y S2 => ∃ l i ds, x = .ref l ∧ y = .int i ∧ S2.get l = some (.lst ds) ∧ (0 ≤ i ∧ i < ds.length) ∧ P ρ (S2.set l (.lst (ds.set i.toNat d)))) : W (gSb eo ei d ρ S) P := w_bind (h.mono fun x S1 q => w_bind (q.mono fun y S2 ⟨l, i, ds, e1, e2, g, r, p⟩ => by
  subst e1
  subst e2
  refine ⟨_, _, ?_, p⟩
  have e : ixN ds.length i = some i.toNat := by
    unfold ixN
    rw [if_pos r.1, if_pos r.2]
  simp only [g, e, Option.bind_some]))
theorem we_bm {f : D → List D → Sto → Option (D × Sto)} {eo : Ev} {el : EvL} {P : D → Sto → Prop} (h : W (eo ρ S) fun x S1 => ∃ l ds, x = .ref l ∧ S1.get l = some (.lst ds) ∧ W (el ρ S1) fun y S2 => W (f (.ref l) y S2) P) : W (eBM f eo el ρ S) P := w_bind (h.mono fun x S1 ⟨l, ds, e, g, q⟩ => by
  subst e
  dsimp only
  rw [g]
  exact w_bind q)
theorem wo_popAt {l : Nat} {i : Int} {ds : List D} {d : D} {P : D → Sto → Prop} (g : S.get l = some (.lst ds)) (h0 : 0 ≤ i) (e : ds[i.toNat]? = some d) (lz : ds.length ≤ 16777216) (h : P d (S.set l (.lst (ds.eraseIdx i.toNat)))) : W (fPopAt (.ref l) [.int i] S) P := by
  refine ⟨_, _, ?_, h⟩
  simp [fPopAt, g, h0, e, sizeLine_eq, lz]
theorem wo_append {l : Nat} {ds : List D} {d : D} {P : D → Sto → Prop} (g : S.get l = some (.lst ds)) (lz : ds.length < 16777216) (h : P .non (S.set l (.lst (ds ++ [d])))) : W (fAppend (.ref l) [d] S) P := by
  refine ⟨_, _, ?_, h⟩
  simp [fAppend, g, sizeLine_eq, lz]
theorem wo_clear {l : Nat} {ds : List D} {P : D → Sto → Prop} (g : S.get l = some (.lst ds)) (h : P .non (S.set l (.lst []))) : W (fClear (.ref l) [] S) P := by
  refine ⟨_, _, ?_, h⟩
  simp [fClear, g]
theorem nxt_nx {b : EvS} (h : WS (b ρ S) Q) : nxt b Q .nx ρ S := h
theorem nxt_rt {b : EvS} {d : D} (h : Q (.rt d) ρ S) : nxt b Q (.rt d) ρ S := h
theorem nxt_rf {b : EvS} {d : List D} (h : Q (.rf d) ρ S) : nxt b Q (.rf d) ρ S := h
theorem nxt_bk {b : EvS} (h : Q .bk ρ S) : nxt b Q .bk ρ S := h
theorem nxt_ct {b : EvS} (h : Q .ct ρ S) : nxt b Q .ct ρ S := h
theorem lp_nx {I : Rho → Sto → Prop} (h : I ρ S) : lp I Q .nx ρ S := h
theorem lp_ct {I : Rho → Sto → Prop} (h : I ρ S) : lp I Q .ct ρ S := h
theorem lp_bk {I : Rho → Sto → Prop} (h : Q .nx ρ S) : lp I Q .bk ρ S := h
theorem lp_rt {I : Rho → Sto → Prop} {d : D} (h : Q (.rt d) ρ S) : lp I Q (.rt d) ρ S := h
theorem lp_rf {I : Rho → Sto → Prop} {d : List D} (h : Q (.rf d) ρ S) : lp I Q (.rf d) ρ S := h
theorem end_nx {P : Out → Sto → Prop} (h : P (.v .non) S) : endP P .nx ρ S := h
theorem end_rt {P : Out → Sto → Prop} {d : D} (h : P (.v d) S) : endP P (.rt d) ρ S := h
theorem end_rf {P : Out → Sto → Prop} {d : List D} (h : P (.f d) S) : endP P (.rf d) ρ S := h
theorem we_m1 {f : D → List D → Sto → Option (α × Sto)} {eo ea : Ev} (h : W (eo ρ S) fun x S1 => ∃ c, x = .str c ∧ W (ea ρ S1) fun y S2 => W (f (.str c) [y] S2) P) : W (eM1 f eo ea ρ S) P := w_bind (h.mono fun x S1 ⟨c, e, q⟩ => by
  subst e
  exact w_bind q)
theorem we_rev {a : Ev} {P : D → Sto → Prop} (h : W (a ρ S) fun x S1 => W (fRev x S1) P) : W (eRev a ρ S) P := we_1 h
end
end AH
set_option maxRecDepth 100000
set_option maxHeartbeats 2000000
local macro_rules | `(tactic| fail $s:str) => match s.getString with
  | "MEM" => `(tactic| (first | exact List.mem_cons_self | (apply List.mem_cons_of_mem; fail "MEM") | (apply List.mem_append_left; fail "MEM") | (apply List.mem_append_right; fail "MEM") | assumption))
  | "UDD" => `(tactic| (first | exact Ud.hd | (apply Ud.tl; fail "UDD") | (apply Ud.lf; fail "UDD") | (apply Ud.rt; fail "UDD") | assumption))
  | "PRM" => `(tactic| (refine perm_cnt fun q => ?_; simp only [List.count_append, List.count_cons, List.count_nil]; omega))
  | "BND" => `(tactic| (first | omega | decide | (simp only [List.length_append, List.length_cons, List.length_nil, List.length_map, List.length_singleton, List.length_take, List.length_drop, List.length_set]; omega) | (simp; omega)))
  | "STEP" => `(tactic| (repeat (first | ((with_reducible show WS _ _); first | (with_reducible refine ws_set ?_) | (with_reducible refine ws_seq ?_) | (with_reducible refine ws_do ?_) | (with_reducible refine xs_if ?_) | (with_reducible refine ws_next ?_) | (with_reducible refine ws_brk ?_) | (with_reducible refine ws_cnt ?_) | (with_reducible refine ws_ret ?_) | (with_reducible refine ws_retF ?_) | (with_reducible refine ws_retN ?_) | (with_reducible refine ws_acc ?_) | (with_reducible refine ws_par ?_) | (with_reducible refine ws_asg ?_) | (with_reducible refine ws_for ?_) | (with_reducible refine xs_putF ?_) | (with_reducible refine ws_par3 ?_) | (with_reducible refine xf_nil ?_) | ((with_reducible apply ws_frz); rfl) | ((with_reducible apply ws_app); rfl) | ((with_reducible apply ws_extend); rfl) | ((with_reducible apply ws_retA); rfl) | ((with_reducible apply ws_frz0); rfl)) | ((with_reducible show W ((_ : Rho → Sto → _) (_ : Rho) (_ : Sto)) _); first | ((with_reducible apply we_var); rfl) | (with_reducible refine we_c ?_) | (with_reducible refine wl_nil ?_) | (with_reducible refine wl_cons ?_) | (with_reducible refine we_2 ?_) | (with_reducible refine we_n ?_) | (with_reducible refine wt_of ?_) | (with_reducible refine we_V ?_) | (with_reducible refine xe_fld ?_) | (with_reducible refine xe_mt ?_) | (with_reducible refine we_1 ?_) | (with_reducible refine we_3 ?_) | (with_reducible refine xe_own ?_) | (with_reducible refine we_tup ?_) | (with_reducible refine wl_lst ?_) | (with_reducible refine xt_or ?_) | (with_reducible refine xt_and ?_) | (with_reducible refine wt_not ?_) | (with_reducible refine xe_and ?_) | (with_reducible refine xe_or ?_) | (with_reducible refine we_not ?_) | (with_reducible refine xe_if ?_) | (with_reducible refine we_isN ?_) | (with_reducible refine we_notN ?_) | (with_reducible refine xe_chain ?_) | (with_reducible refine wt_yes ?_) | (with_reducible refine wi_L ?_) | (with_reducible refine wi_T ?_) | (with_reducible refine wi_S ?_) | (with_reducible refine wi_R1 ?_) | (with_reducible refine wi_R2 ?_) | (with_reducible refine wi_R3 ?_) | (with_reducible refine wi_E ?_) | (with_reducible refine xe_bm ?_) | (with_reducible refine xg_sb ?_) | (with_reducible refine we_m1 ?_) | (with_reducible refine xg_fd ?_) | (with_reducible refine xg_dput ?_) | (with_reducible refine xe_dget2 ?_) | (with_reducible refine xe_disp ?_) | (with_reducible refine xe_newK ?_) | (with_reducible refine xe_newT ?_) | (with_reducible refine wg_cons ?_) | (with_reducible refine wg_nil ?_) | (with_reducible refine wi_ES ?_) | (with_reducible refine xe_mtF ?_) | (with_reducible refine xe_mtO ?_) | (with_reducible refine xe_mk ?_) | (with_reducible refine we_rev ?_) | (with_reducible refine wg_tp rfl ?_) | (with_reducible refine wg_nm (Nat.le_of_ble_eq_true rfl) ?_)) | ((with_reducible show W _ _); first | (with_reducible refine wo_none ?_) | (with_reducible refine wo_some ?_) | (with_reducible refine we_call ?_) | (with_reducible refine we_callF ?_) | (with_reducible refine xe_callO ?_) | (with_reducible refine xl_nil ?_) | (with_reducible refine wo_add ?_) | (with_reducible refine wo_sub ?_) | (with_reducible refine wo_neg ?_) | (with_reducible refine wo_cmp ?_) | (with_reducible refine wo_eqI ?_) | (with_reducible refine wo_neI ?_) | (with_reducible refine wo_eqS ?_) | (with_reducible refine wo_neS ?_) | (with_reducible refine wo_eqB ?_) | (with_reducible refine wo_neB ?_) | (with_reducible refine wo_lenL ?_) | (with_reducible refine wo_lenT ?_) | (with_reducible refine wo_lenC ?_) | (with_reducible refine wo_max ?_) | (with_reducible refine wo_min ?_) | (with_reducible refine wo_slL ?_) | (with_reducible refine wo_listC ?_) | (with_reducible refine wo_listL ?_) | (with_reducible refine wo_listT ?_) | (with_reducible refine wo_tupT ?_) | (with_reducible refine wo_tupL ?_) | (with_reducible refine wo_intI ?_) | (with_reducible refine wo_intB ?_) | (with_reducible refine wo_strS ?_) | (with_reducible refine wo_inS ?_) | (with_reducible refine wo_ninS ?_) | ((with_reducible apply xl_cons); rfl) | ((with_reducible apply wo_isT); rfl; rfl) | ((with_reducible apply xo_fld); assumption; fail "MEM"; rfl) | ((with_reducible apply xo_pFld); assumption; fail "UDD"; rfl; intro S hs) | ((with_reducible apply xo_isI); assumption; fail "MEM") | ((with_reducible apply xo_ownB); assumption; intro ln S hs) | ((with_reducible apply xo_newB); assumption; intro ln S hs) | ((with_reducible apply xo_newKB); assumption; intro ln S hs) | ((with_reducible apply xo_newTB); assumption; intro ln S hs) | ((with_reducible apply xo_own); assumption; intro ln S hs) | ((with_reducible apply xo_new); assumption; intro ln S hs) | ((with_reducible apply xo_newK); assumption; intro ln S hs) | ((with_reducible apply xo_newT); assumption; intro ln S hs) | ((with_reducible apply xo_disp); assumption; rfl; intro ln S hs) | ((with_reducible apply xo_dget); assumption; fail "MEM"; rfl; rfl) | ((with_reducible apply xo_din); assumption; fail "MEM"; rfl) | ((with_reducible apply xo_dnotin); assumption; fail "MEM"; rfl) | ((with_reducible apply xo_dput); assumption; fail "UDD"; rfl; fail "BND"; rfl; intro S hs) | ((with_reducible apply xo_ixR); assumption; fail "MEM"; decide; rfl) | ((with_reducible apply xo_lenR); assumption; fail "MEM") | ((with_reducible apply xo_slR); assumption; fail "MEM") | ((with_reducible apply xo_listR); assumption; fail "MEM") | ((with_reducible apply xo_append); assumption; fail "UDD"; fail "BND"; intro S hs) | ((with_reducible apply xo_clear); assumption; fail "UDD"; intro S hs) | ((with_reducible apply xo_isL); assumption; fail "MEM") | ((with_reducible apply xo_isD); assumption; fail "MEM") | ((with_reducible apply wo_ixL); decide; rfl) | ((with_reducible apply wo_ixT); decide; rfl) | ((with_reducible apply wo_addS); fail "BND") | ((with_reducible apply wo_len); fail "BND") | ((with_reducible apply wo_slS); fail "BND") | ((with_reducible apply wo_cat); fail "BND")) | ((with_reducible show Br _ _ _); first | (with_reducible refine Br.t ?_) | (with_reducible refine Br.f ?_) | (with_reducible refine Br.n ?_) | ((with_reducible apply Br.it); rfl) | ((with_reducible apply Br.jt); rfl) | ((with_reducible apply Br.dt); assumption) | ((with_reducible apply Br.df); assumption)) | (with_reducible refine nxt_nx ?_) | (with_reducible refine lp_nx ?_) | (with_reducible refine lp_ct ?_) | (with_reducible refine lp_bk ?_) | (with_reducible refine lp_rt ?_) | (with_reducible refine lp_rf ?_) | (with_reducible refine nxt_rt ?_) | (with_reducible refine nxt_rf ?_) | (with_reducible refine nxt_bk ?_) | (with_reducible refine nxt_ct ?_) | (with_reducible refine end_nx ?_) | (with_reducible refine end_rt ?_) | (with_reducible refine end_rf ?_) | (refine ⟨Nat.le_of_ble_eq_true rfl, ?_⟩) | (with_reducible refine ⟨_, rfl, ?_⟩) | (refine ⟨⟨Nat.le_of_ble_eq_true rfl, Nat.le_of_ble_eq_true rfl⟩, ?_⟩) | (refine ⟨⟨Nat.le_of_ble_eq_true rfl, Nat.le_of_ble_eq_true rfl, Nat.le_of_ble_eq_true rfl⟩, ?_⟩) | (with_reducible refine ⟨_, _, rfl, ?_⟩) | (with_reducible refine ⟨_, _, _, rfl, ?_⟩) | (with_reducible refine Or.inl ⟨_, rfl, ?_⟩) | (with_reducible refine Or.inr ⟨_, rfl, ?_⟩))))
  | "STAY" => `(tactic| (repeat (first | ((with_reducible show WS _ _); first | (with_reducible refine ws_set ?_) | (with_reducible refine ws_do ?_) | (with_reducible refine xs_if ?_) | (with_reducible refine ws_next ?_) | (with_reducible refine ws_brk ?_) | (with_reducible refine ws_cnt ?_) | (with_reducible refine ws_ret ?_) | (with_reducible refine ws_retF ?_) | (with_reducible refine ws_retN ?_) | (with_reducible refine ws_acc ?_) | (with_reducible refine ws_par ?_) | (with_reducible refine ws_asg ?_) | (with_reducible refine ws_for ?_) | (with_reducible refine xs_putF ?_) | (with_reducible refine ws_par3 ?_) | (with_reducible refine xf_nil ?_) | ((with_reducible apply ws_frz); rfl) | ((with_reducible apply ws_app); rfl) | ((with_reducible apply ws_extend); rfl) | ((with_reducible apply ws_retA); rfl) | ((with_reducible apply ws_frz0); rfl)) | ((with_reducible show W ((_ : Rho → Sto → _) (_ : Rho) (_ : Sto)) _); first | ((with_reducible apply we_var); rfl) | (with_reducible refine we_c ?_) | (with_reducible refine wl_nil ?_) | (with_reducible refine wl_cons ?_) | (with_reducible refine we_2 ?_) | (with_reducible refine we_n ?_) | (with_reducible refine wt_of ?_) | (with_reducible refine we_V ?_) | (with_reducible refine xe_fld ?_) | (with_reducible refine xe_mt ?_) | (with_reducible refine we_1 ?_) | (with_reducible refine we_3 ?_) | (with_reducible refine xe_own ?_) | (with_reducible refine we_tup ?_) | (with_reducible refine wl_lst ?_) | (with_reducible refine xt_or ?_) | (with_reducible refine xt_and ?_) | (with_reducible refine wt_not ?_) | (with_reducible refine xe_and ?_) | (with_reducible refine xe_or ?_) | (with_reducible refine we_not ?_) | (with_reducible refine xe_if ?_) | (with_reducible refine we_isN ?_) | (with_reducible refine we_notN ?_) | (with_reducible refine xe_chain ?_) | (with_reducible refine wt_yes ?_) | (with_reducible refine wi_L ?_) | (with_reducible refine wi_T ?_) | (with_reducible refine wi_S ?_) | (with_reducible refine wi_R1 ?_) | (with_reducible refine wi_R2 ?_) | (with_reducible refine wi_R3 ?_) | (with_reducible refine wi_E ?_) | (with_reducible refine xe_bm ?_) | (with_reducible refine xg_sb ?_) | (with_reducible refine we_m1 ?_) | (with_reducible refine xg_fd ?_) | (with_reducible refine xg_dput ?_) | (with_reducible refine xe_dget2 ?_) | (with_reducible refine xe_disp ?_) | (with_reducible refine xe_newK ?_) | (with_reducible refine xe_newT ?_) | (with_reducible refine wg_cons ?_) | (with_reducible refine wg_nil ?_) | (with_reducible refine wi_ES ?_) | (with_reducible refine xe_mtF ?_) | (with_reducible refine xe_mtO ?_) | (with_reducible refine xe_mk ?_) | (with_reducible refine we_rev ?_) | (with_reducible refine wg_tp rfl ?_) | (with_reducible refine wg_nm (Nat.le_of_ble_eq_true rfl) ?_)) | ((with_reducible show W _ _); first | (with_reducible refine wo_none ?_) | (with_reducible refine wo_some ?_) | (with_reducible refine we_call ?_) | (with_reducible refine we_callF ?_) | (with_reducible refine xe_callO ?_) | (with_reducible refine xl_nil ?_) | (with_reducible refine wo_add ?_) | (with_reducible refine wo_sub ?_) | (with_reducible refine wo_neg ?_) | (with_reducible refine wo_cmp ?_) | (with_reducible refine wo_eqI ?_) | (with_reducible refine wo_neI ?_) | (with_reducible refine wo_eqS ?_) | (with_reducible refine wo_neS ?_) | (with_reducible refine wo_eqB ?_) | (with_reducible refine wo_neB ?_) | (with_reducible refine wo_lenL ?_) | (with_reducible refine wo_lenT ?_) | (with_reducible refine wo_lenC ?_) | (with_reducible refine wo_max ?_) | (with_reducible refine wo_min ?_) | (with_reducible refine wo_slL ?_) | (with_reducible refine wo_listC ?_) | (with_reducible refine wo_listL ?_) | (with_reducible refine wo_listT ?_) | (with_reducible refine wo_tupT ?_) | (with_reducible refine wo_tupL ?_) | (with_reducible refine wo_intI ?_) | (with_reducible refine wo_intB ?_) | (with_reducible refine wo_strS ?_) | (with_reducible refine wo_inS ?_) | (with_reducible refine wo_ninS ?_) | ((with_reducible apply xl_cons); rfl) | ((with_reducible apply wo_isT); rfl; rfl) | ((with_reducible apply xo_fld); assumption; fail "MEM"; rfl) | ((with_reducible apply xo_pFld); assumption; fail "UDD"; rfl; intro S hs) | ((with_reducible apply xo_isI); assumption; fail "MEM") | ((with_reducible apply xo_ownB); assumption; intro ln S hs) | ((with_reducible apply xo_newB); assumption; intro ln S hs) | ((with_reducible apply xo_newKB); assumption; intro ln S hs) | ((with_reducible apply xo_newTB); assumption; intro ln S hs) | ((with_reducible apply xo_own); assumption; intro ln S hs) | ((with_reducible apply xo_new); assumption; intro ln S hs) | ((with_reducible apply xo_newK); assumption; intro ln S hs) | ((with_reducible apply xo_newT); assumption; intro ln S hs) | ((with_reducible apply xo_disp); assumption; rfl; intro ln S hs) | ((with_reducible apply xo_dget); assumption; fail "MEM"; rfl; rfl) | ((with_reducible apply xo_din); assumption; fail "MEM"; rfl) | ((with_reducible apply xo_dnotin); assumption; fail "MEM"; rfl) | ((with_reducible apply xo_dput); assumption; fail "UDD"; rfl; fail "BND"; rfl; intro S hs) | ((with_reducible apply xo_ixR); assumption; fail "MEM"; decide; rfl) | ((with_reducible apply xo_lenR); assumption; fail "MEM") | ((with_reducible apply xo_slR); assumption; fail "MEM") | ((with_reducible apply xo_listR); assumption; fail "MEM") | ((with_reducible apply xo_append); assumption; fail "UDD"; fail "BND"; intro S hs) | ((with_reducible apply xo_clear); assumption; fail "UDD"; intro S hs) | ((with_reducible apply xo_isL); assumption; fail "MEM") | ((with_reducible apply xo_isD); assumption; fail "MEM") | ((with_reducible apply wo_ixL); decide; rfl) | ((with_reducible apply wo_ixT); decide; rfl) | ((with_reducible apply wo_addS); fail "BND") | ((with_reducible apply wo_len); fail "BND") | ((with_reducible apply wo_slS); fail "BND") | ((with_reducible apply wo_cat); fail "BND")) | ((with_reducible show Br _ _ _); first | (with_reducible refine Br.t ?_) | (with_reducible refine Br.f ?_) | (with_reducible refine Br.n ?_) | ((with_reducible apply Br.it); rfl) | ((with_reducible apply Br.jt); rfl) | ((with_reducible apply Br.dt); assumption) | ((with_reducible apply Br.df); assumption)) | (with_reducible refine nxt_nx ?_) | (with_reducible refine lp_nx ?_) | (with_reducible refine lp_ct ?_) | (with_reducible refine lp_bk ?_) | (with_reducible refine lp_rt ?_) | (with_reducible refine lp_rf ?_) | (with_reducible refine nxt_rt ?_) | (with_reducible refine nxt_rf ?_) | (with_reducible refine nxt_bk ?_) | (with_reducible refine nxt_ct ?_) | (with_reducible refine end_nx ?_) | (with_reducible refine end_rt ?_) | (with_reducible refine end_rf ?_) | (refine ⟨Nat.le_of_ble_eq_true rfl, ?_⟩) | (with_reducible refine ⟨_, rfl, ?_⟩) | (refine ⟨⟨Nat.le_of_ble_eq_true rfl, Nat.le_of_ble_eq_true rfl⟩, ?_⟩) | (refine ⟨⟨Nat.le_of_ble_eq_true rfl, Nat.le_of_ble_eq_true rfl, Nat.le_of_ble_eq_true rfl⟩, ?_⟩) | (with_reducible refine ⟨_, _, rfl, ?_⟩) | (with_reducible refine ⟨_, _, _, rfl, ?_⟩) | (with_reducible refine Or.inl ⟨_, rfl, ?_⟩) | (with_reducible refine Or.inr ⟨_, rfl, ?_⟩))))
  | "ONE" => `(tactic| (refine ws_seq ?_; fail "STAY"))
  | "OSTEP" => `(tactic| (repeat (first | with_reducible (first | refine ws_seq ?_ | refine nxt_nx ?_ | refine lp_nx ?_ | refine lp_ct ?_ | refine lp_bk ?_ | refine lp_rt ?_ | refine lp_rf ?_ | refine nxt_rt ?_ | refine nxt_rf ?_ | refine nxt_bk ?_ | refine nxt_ct ?_ | refine end_nx ?_ | refine end_rt ?_ | refine end_rf ?_ | refine ws_next ?_ | refine ws_brk ?_ | refine ws_cnt ?_ | refine ws_do ?_ | refine ws_ret ?_ | refine ws_retF ?_ | refine ws_retN ?_ | refine ws_set ?_ | refine ws_acc ?_ | refine ws_par ?_ | refine ws_asg ?_ | refine ws_for ?_ | refine ws_if ?_ | refine we_2 ?_ | refine we_1 ?_ | refine we_n ?_ | refine we_3 ?_ | refine we_c ?_ | refine wo_none ?_ | refine wo_some ?_ | refine wl_cons ?_ | refine wl_nil ?_ | refine we_V ?_ | refine we_own ?_ | refine we_tup ?_ | refine wl_lst ?_ | refine wt_of ?_ | refine wt_or ?_ | refine wt_and ?_ | refine wt_not ?_ | refine we_and ?_ | refine we_or ?_ | refine we_not ?_ | refine we_if ?_ | refine we_isN ?_ | refine we_notN ?_ | refine we_chain ?_ | refine wt_yes ?_ | refine wi_L ?_ | refine wi_T ?_ | refine wi_S ?_ | refine wi_R1 ?_ | refine wi_R2 ?_ | refine wi_R3 ?_ | refine wi_E ?_ | refine we_call ?_ | refine we_callF ?_ | refine we_bm ?_ | refine wg_sb ?_ | refine we_m1 ?_ | refine we_fld ?_ | refine ws_putF ?_ | refine wg_fd ?_ | refine wg_cons ?_ | refine wg_nil ?_ | refine wi_ES ?_ | refine ws_par3 ?_ | refine we_mt ?_ | refine we_mtF ?_ | refine we_mk ?_ | refine we_rev ?_ | refine wo_add ?_ | refine wo_sub ?_ | refine wo_neg ?_ | refine wo_cmp ?_ | refine wo_eqI ?_ | refine wo_neI ?_ | refine wo_eqS ?_ | refine wo_neS ?_ | refine wo_eqB ?_ | refine wo_neB ?_ | refine wo_lenL ?_ | refine wo_lenT ?_ | refine wo_lenC ?_ | refine wo_max ?_ | refine wo_min ?_ | refine wo_slL ?_ | refine wo_listC ?_ | refine wo_listL ?_ | refine wo_listT ?_ | refine wo_tupT ?_ | refine wo_tupL ?_ | refine wo_intI ?_ | refine wo_intB ?_ | refine wo_strS ?_ | refine wo_inS ?_ | refine wo_ninS ?_) | ((with_reducible apply we_var); rfl) | ((with_reducible apply ws_frz); rfl) | ((with_reducible apply ws_app); rfl) | ((with_reducible apply ws_extend); rfl) | ((with_reducible apply ws_retA); rfl) | ((with_reducible apply ws_frz0); rfl) | ((with_reducible apply wo_isT); rfl; rfl) | (refine ⟨Nat.le_of_ble_eq_true rfl, ?_⟩) | (with_reducible refine ⟨_, rfl, ?_⟩) | (with_reducible refine wg_tp rfl ?_) | (with_reducible refine wg_nm (Nat.le_of_ble_eq_true rfl) ?_) | (refine ⟨⟨Nat.le_of_ble_eq_true rfl, Nat.le_of_ble_eq_true rfl⟩, ?_⟩) | (with_reducible refine Or.inl ⟨_, rfl, ?_⟩) | (with_reducible refine Or.inr ⟨_, rfl, ?_⟩))))
  | _ => Lean.Macro.throwUnsupported
namespace AH
open PySem L2 TL
/-- the drawn numbers' box: a list of the numbers left, and the stirred number -/
structure Box (S : Sto) (l m : Nat) : Prop where
  ne : m < l
  out : ∃ q : Int, S.get l = some (.lst [.ref m, .int q])
  inn : ∃ xs : List Int, S.get m = some (.lst (xs.map .int)) ∧ xs.length ≤ 63
  lt : l < S.next
/-- only the box changes -/
structure Bx (l m : Nat) (S S' : Sto) : Prop where
  box : Box S' l m
  nx : S'.next = S.next
  fr : ∀ k, k ≠ l → k ≠ m → S'.get k = S.get k
theorem Bx.refl {l m : Nat} {S : Sto} (b : Box S l m) : Bx l m S S := ⟨b, rfl, fun _ _ _ => rfl⟩
theorem Bx.trans {l m : Nat} {S T U : Sto} (a : Bx l m S T) (b : Bx l m T U) : Bx l m S U := ⟨b.box, b.nx.trans a.nx, fun k h1 h2 => (b.fr k h1 h2).trans (a.fr k h1 h2)⟩
theorem Bx.setL {l m : Nat} {S : Sto} (b : Box S l m) (q : Int) : Bx l m S (S.set l (.lst [.ref m, .int q])) := by
  have h := b.ne
  refine ⟨⟨b.ne, ⟨q, if_pos rfl⟩, ?_, b.lt⟩, rfl, fun k h1 h2 => if_neg h1⟩
  obtain ⟨xs, e, z⟩ := b.inn
  exact ⟨xs, (if_neg (by omega)).trans e, z⟩
theorem Bx.setM {l m : Nat} {S : Sto} (b : Box S l m) {xs : List Int} (z : xs.length ≤ 63) : Bx l m S (S.set m (.lst (xs.map .int))) := by
  have h := b.ne
  refine ⟨⟨b.ne, ?_, ⟨xs, if_pos rfl, z⟩, b.lt⟩, rfl, fun k h1 h2 => if_neg h2⟩
  obtain ⟨q, e⟩ := b.out
  exact ⟨q, (if_neg (by omega)).trans e⟩
theorem toPys_ints : ∀ xs : List Int, toPys (xs.map D.int) = some (xs.map PyData.int)
  | [] => rfl
  | x :: xs => by
    show (match toPy (.int x), toPys (xs.map D.int) with
      | some p, some ps => some (p :: ps)
      | _, _ => none) = _
    rw [toPys_ints xs]
    rfl
theorem lay_ints : ∀ xs : List Int, PyData.canLayAll0 (xs.map PyData.int) = true ∧ PyData.depthAll (xs.map PyData.int) = 0
  | [] => ⟨rfl, rfl⟩
  | x :: xs => by
    obtain ⟨h1, h2⟩ := lay_ints xs
    refine ⟨?_, ?_⟩
    · show (PyData.canLay0 (.int x) && PyData.canLayAll0 (xs.map PyData.int)) = true
      rw [h1]
      rfl
    · show max (PyData.depth (.int x)) (PyData.depthAll (xs.map PyData.int)) = 0
      rw [h2]
      rfl
theorem shaped_ints (xs : List Int) : SeqAt.shaped (.list (xs.map PyData.int)) = true := by
  obtain ⟨h1, h2⟩ := lay_ints xs
  show (PyData.canLayAll0 (xs.map PyData.int) && decide (PyData.depthAll (xs.map PyData.int) + 1 ≤ 64)) = true
  rw [h1, h2]
  rfl
theorem eqv_nil : ∀ xs : List Int, PyData.eqvAll (xs.map PyData.int) [] = xs.isEmpty
  | [] => rfl
  | _ :: _ => rfl
theorem wo_eqNil {S : Sto} {m : Nat} {xs : List Int} {P : D → Sto → Prop} (g : S.get m = some (.lst (xs.map .int))) (h : P (.bl xs.isEmpty) S) : W (fEq (.ref m) (.lst []) S) P := by
  refine ⟨_, _, ?_, h⟩
  have e : eqD S (.ref m) (.lst []) = some xs.isEmpty := by
    show (match toPyS S (.ref m), toPyS S (.lst []) with
      | some p, some q => eqPy p q
      | _, _ => none) = _
    have e1 : toPyS S (.ref m) = some (.list (xs.map PyData.int)) := by
      show (match S.get m with
        | some (.lst ds) => (toPys ds).map PyData.list
        | _ => none) = _
      rw [g]
      dsimp only
      rw [toPys_ints]
      rfl
    have e2 : toPyS S (.lst []) = some (.list []) := rfl
    rw [e1, e2]
    dsimp only
    unfold eqPy
    rw [if_pos ⟨shaped_ints xs, shaped_ints []⟩]
    show some (PyData.eqvAll (xs.map PyData.int) []) = _
    rw [eqv_nil]
  unfold fEq
  rw [e]
  rfl
def bTake : EvS := (sSeq (sIf (tOf (e2 fEq (e2 fIx (eVar 0) (eC (.int 0))) (eV (fLst aNil)))) (sSeq (sAsg (e2 fMod (e2 fMul (e2 fIx (eVar 0) (eC (.int 1))) (eC (.int 48271))) (eC (.int 2147483647))) (gSb (eVar 0) (eC (.int 1))))
  (sRet (e2 fMod (e2 fDiv (e2 fIx (eVar 0) (eC (.int 1))) (eC (.int 7))) (eVar 1)))) sNext)
  (sSeq (sAsg (e2 fIx (e2 fIx (eVar 0) (eC (.int 0))) (eC (.int 0))) (gNm 2))
  (sSeq (sAsg (e2 fDiv (eVar 2) (eVar 1)) (gSb (e2 fIx (eVar 0) (eC (.int 0))) (eC (.int 0))))
  (sSeq (sIf (tOrE (tOf (e2 fEq (e2 fIx (e2 fIx (eVar 0) (eC (.int 0))) (eC (.int 0))) (eC (.int 0)))) (tOf (e2 fEq (e2 fIx (e2 fIx (eVar 0) (eC (.int 0))) (eC (.int 0))) (e1 fNeg (eC (.int 1)))))) (sDo (eBM fPopAt (e2 fIx (eVar 0) (eC (.int 0))) (aCons (eC (.int 0)) aNil))) sNext)
  (sRet (e2 fMod (eVar 2) (eVar 1)))))))
def F_take : Fn := runB 2 3 bTake
theorem take_ok {S : Sto} {l m : Nat} {n : Int} (b : Box S l m) (h0 : 0 < n) (h1 : n < 1073741824) : W (F_take [.ref l, .int n] S) fun o S' => ∃ r : Int, o = .v (.int r) ∧ (0 ≤ r ∧ r < n) ∧ Bx l m S S' := by
  refine w_run rfl ?_
  obtain ⟨q, eq⟩ := b.out
  obtain ⟨xs, ex, lx⟩ := b.inn
  show WS (bTake [.val (.ref l), .val (.int n), .no] S) _
  unfold bTake
  fail "OSTEP"
  refine wo_ixR eq (by decide) rfl ?_
  fail "OSTEP"
  refine wo_eqNil ex ?_
  fail "OSTEP"
  refine ⟨fun hc => ?_, fun hc => ?_⟩
  · fail "OSTEP"
    refine wo_ixR eq (by decide) rfl ?_
    fail "OSTEP"
    refine wo_mul (Or.inr (by decide)) ?_
    fail "OSTEP"
    refine wo_mod (by decide) ?_
    fail "OSTEP"
    refine ⟨_, _, _, rfl, rfl, eq, by simp, ?_⟩
    fail "OSTEP"
    have bx := Bx.setL b (q * 48271 % 2147483647)
    refine wo_ixR (if_pos rfl) (by decide) rfl ?_
    fail "OSTEP"
    refine wo_div (by decide) ?_
    fail "OSTEP"
    refine wo_mod h0 ?_
    fail "OSTEP"
    exact ⟨⟨Int.emod_nonneg _ (by omega), Int.emod_lt_of_pos _ h0⟩, bx⟩
  · cases xs with
    | nil => cases hc
    | cons x xs =>
      fail "OSTEP"
      refine wo_ixR eq (by decide) rfl ?_
      fail "OSTEP"
      refine wo_ixR ex (by decide) rfl ?_
      fail "OSTEP"
      refine wo_div ⟨h0, h1⟩ ?_
      fail "OSTEP"
      refine wo_ixR eq (by decide) rfl ?_
      fail "OSTEP"
      refine ⟨_, _, _, rfl, rfl, ex, ⟨by decide, by simp⟩, ?_⟩
      have bx : Bx l m S (S.set m (.lst (((x / n) :: xs).map .int))) := Bx.setM b (by simpa using lx)
      have ex2 : (S.set m (.lst (((x / n) :: xs).map .int))).get m = some (.lst (((x / n) :: xs).map .int)) := if_pos rfl
      fail "OSTEP"
      have eq2 : (S.set m (.lst (((x / n) :: xs).map .int))).get l = some (.lst [.ref m, .int q]) := (if_neg (by have := b.ne; omega)).trans eq
      refine wo_ixR eq2 (by decide) rfl ?_
      fail "OSTEP"
      refine wo_ixR ex2 (by decide) rfl ?_
      fail "OSTEP"
      refine ⟨fun _ => ?_, fun _ => ?_⟩
      · refine ⟨fun _ => ?_, fun z => nomatch z⟩
        fail "OSTEP"
        refine wo_ixR eq2 (by decide) rfl ?_
        fail "OSTEP"
        refine ⟨_, _, rfl, ex2, ?_⟩
        fail "OSTEP"
        refine wo_popAt ex2 (by decide) rfl (by simp at lx ⊢; omega) ?_
        fail "OSTEP"
        refine wo_mod h0 ?_
        fail "OSTEP"
        exact ⟨⟨Int.emod_nonneg _ (by omega), Int.emod_lt_of_pos _ h0⟩, bx.trans (Bx.setM bx.box (xs := xs) (by simp at lx; omega))⟩
      · fail "OSTEP"
        refine wo_ixR eq2 (by decide) rfl ?_
        fail "OSTEP"
        refine wo_ixR ex2 (by decide) rfl ?_
        fail "OSTEP"
        refine ⟨fun _ => ?_, fun _ => ?_⟩
        · fail "OSTEP"
          refine wo_ixR eq2 (by decide) rfl ?_
          fail "OSTEP"
          refine ⟨_, _, rfl, ex2, ?_⟩
          fail "OSTEP"
          refine wo_popAt ex2 (by decide) rfl (by simp at lx ⊢; omega) ?_
          fail "OSTEP"
          refine wo_mod h0 ?_
          fail "OSTEP"
          exact ⟨⟨Int.emod_nonneg _ (by omega), Int.emod_lt_of_pos _ h0⟩, bx.trans (Bx.setM bx.box (xs := xs) (by simp at lx; omega))⟩
        · fail "OSTEP"
          refine wo_mod h0 ?_
          fail "OSTEP"
          exact ⟨⟨Int.emod_nonneg _ (by omega), Int.emod_lt_of_pos _ h0⟩, bx⟩
def bBegun : EvS := (sSeq (sAsg (eC (.int 0)) (gNm 1))
  (sSeq (sFor (iL (eVar 0)) (gNm 2) (sAsg (e2 fMod (e2 fAdd (e2 fAdd (e2 fMul (eVar 1) (eC (.int 48271))) (e2 fMul (eVar 2) (eC (.int 69621)))) (eC (.int 11))) (eC (.int 2147483647))) (gNm 1)))
  (sRet (eOwn (fLst (aCons (eOwn (eN fListOf (aCons (eVar 0) aNil))) (aCons (e2 fMul (eVar 1) (eN fInt (aCons (e2 fGt (eN fLen (aCons (eVar 0) aNil)) (eC (.int 2))) aNil))) aNil)))))))
def F_begun : Fn := runB 1 3 bBegun
/-- new things stand above -/
structure Up (S S' : Sto) : Prop where
  nx : S.next ≤ S'.next
  fr : ∀ k, k < S.next → S'.get k = S.get k
theorem Up.refl (S : Sto) : Up S S := ⟨Nat.le_refl _, fun _ _ => rfl⟩
theorem Up.trans {a b c : Sto} (x : Up a b) (y : Up b c) : Up a c := ⟨Nat.le_trans x.nx y.nx, fun k h => (y.fr k (Nat.lt_of_lt_of_le h x.nx)).trans (x.fr k h)⟩
theorem Up.new (S : Sto) (o : MO) : Up S (S.new o) := ⟨Nat.le_succ _, fun k h => if_neg (by omega)⟩
theorem Box.up {S S' : Sto} {l m : Nat} (b : Box S l m) (u : Up S S') : Box S' l m := by
  have h1 := b.ne
  have h2 := b.lt
  obtain ⟨q, e⟩ := b.out
  obtain ⟨xs, e2, z⟩ := b.inn
  exact ⟨b.ne, ⟨q, (u.fr l h2).trans e⟩, ⟨xs, (u.fr m (by omega)).trans e2, z⟩, Nat.lt_of_lt_of_le h2 u.nx⟩
theorem begun_ok {S : Sto} {ns : List Int} (hl : ns.length ≤ 63) : W (F_begun [.scr ns] S) fun o S' => ∃ l m, o = .v (.ref l) ∧ Box S' l m ∧ Up S S' := by
  refine w_run rfl ?_
  show WS (bBegun [.val (.scr ns), .no, .no] S) _
  unfold bBegun
  fail "OSTEP"
  refine ws_loop (fun _ ρ S1 => S1 = S ∧ ∃ (q : Int) (z : Sl), ρ = [.val (.scr ns), .val (.int q), z]) ⟨rfl, 0, .no, rfl⟩ ?_ ?_
  · rintro k d ρ S1 hk ⟨rfl, q, z, rfl⟩
    have e : ∃ x : Int, d = .int x := by
      rw [List.getElem?_map] at hk
      cases h : ns[k]? with
      | none => rw [h] at hk; cases hk
      | some x => rw [h] at hk; cases hk; exact ⟨x, rfl⟩
    obtain ⟨x, rfl⟩ := e
    fail "OSTEP"
    refine wo_mul (Or.inr (by decide)) ?_
    fail "OSTEP"
    refine wo_mul (Or.inr (by decide)) ?_
    fail "OSTEP"
    refine wo_mod (by decide) ?_
    fail "OSTEP"
    exact ⟨rfl, _, _, rfl⟩
  · rintro ρ S1 ⟨rfl, q, z, rfl⟩
    fail "OSTEP"
    refine wo_mul (Or.inr (by split <;> decide)) ?_
    fail "OSTEP"
    refine ⟨_, S1.next, rfl, ⟨Nat.lt_succ_self _, ⟨_, if_pos rfl⟩, ⟨ns, ?_, hl⟩, Nat.lt_succ_self _⟩, (Up.new _ _).trans (Up.new _ _)⟩
    refine (if_neg ?_).trans (if_pos rfl)
    exact Nat.ne_of_lt (Nat.lt_succ_self _)
def bAlike (F : Fn) : EvS := (sSeq (sIf (tOf (eIsN (eVar 1))) (sRet (eIsN (eVar 0))) sNext)
  (sSeq (sIf (tOf (eN fIsT (aCons (eVar 1) (aCons (eC (.raw (.ty "bool"))) aNil)))) (sRet (eAndE (eN fIsT (aCons (eVar 0) (aCons (eC (.raw (.ty "bool"))) aNil))) (e2 fEq (eVar 0) (eVar 1)))) sNext)
  (sSeq (sIf (tOf (eN fIsT (aCons (eVar 1) (aCons (eC (.raw (.ty "int"))) aNil)))) (sRet (eAndE (eN fIsT (aCons (eVar 0) (aCons (eC (.raw (.ty "int"))) aNil))) (eAndE (eNotE (eN fIsT (aCons (eVar 0) (aCons (eC (.raw (.ty "bool"))) aNil)))) (e2 fEq (eVar 0) (eVar 1))))) sNext)
  (sSeq (sIf (tOf (eN fIsT (aCons (eVar 1) (aCons (eC (.raw (.ty "str"))) aNil)))) (sRet (eAndE (eN fIsT (aCons (eVar 0) (aCons (eC (.raw (.ty "str"))) aNil))) (e2 fEq (eVar 0) (eVar 1)))) sNext)
  (sSeq (sIf (tOrE (tOf (e2 fNe (eN fIsT (aCons (eVar 1) (aCons (eC (.raw (.ty "tuple"))) aNil))) (eN fIsT (aCons (eVar 0) (aCons (eC (.raw (.ty "tuple"))) aNil))))) (tOf (e2 fNe (eN fIsT (aCons (eVar 1) (aCons (eC (.raw (.ty "list"))) aNil))) (eN fIsT (aCons (eVar 0) (aCons (eC (.raw (.ty "list"))) aNil)))))) (sRet (eC (.bl false))) sNext)
  (sSeq (sIf (tOf (e2 fNe (eN fLen (aCons (eVar 0) aNil)) (eN fLen (aCons (eVar 1) aNil)))) (sRet (eC (.bl false))) sNext)
  (sSeq (sFor (iR1 (aCons (eN fLen (aCons (eVar 1) aNil)) aNil)) (gNm 2) (sIf (tNotE (tOf (eN (callE F) (aCons (e2 fIx (eVar 0) (eVar 2)) (aCons (e2 fIx (eVar 1) (eVar 2)) aNil))))) (sRet (eC (.bl false))) sNext))
  (sRet (eC (.bl true))))))))))
def F_alike : Nat → Fn
  | 0 => fun _ _ => none
  | n + 1 => runB 2 3 (bAlike (F_alike n))
/-- alike behind at most n looks: equal data, a list of the store like the list it holds -/
inductive Ak (S : Sto) : Nat → D → D → Prop
  | non {n} : Ak S (n + 1) .non .non
  | bl {n b} : Ak S (n + 1) (.bl b) (.bl b)
  | int {n i} : Ak S (n + 1) (.int i) (.int i)
  | str {n c} : Ak S (n + 1) (.str c) (.str c)
  | tup {n as bs} : as.length = bs.length → as.length ≤ 1000000 → (∀ (i : Nat) a b, as[i]? = some a → bs[i]? = some b → Ak S n a b) → Ak S (n + 1) (.tup as) (.tup bs)
  | lst {n a b as bs} : lstOf S a = some as → lstOf S b = some bs → as.length = bs.length → as.length ≤ 1000000 → (∀ (i : Nat) a b, as[i]? = some a → bs[i]? = some b → Ak S n a b) → Ak S (n + 1) a b
theorem lstOf_ty {S : Sto} {a : D} {as : List D} (h : lstOf S a = some as) : tyName S a = some "list" ∧ isNon a = some false ∧ seqOf S a = some as := by
  unfold lstOf at h
  split at h
  · cases h
    exact ⟨rfl, rfl, rfl⟩
  · rename_i l
    split at h
    · rename_i ds g
      cases h
      refine ⟨?_, rfl, ?_⟩
      · simp [tyName, g]
      · simp [seqOf, lstOf, g]
    · cases h
  · cases h
theorem wo_lenO {S : Sto} {a : D} {as : List D} {P : D → Sto → Prop} (h : lstOf S a = some as) (k : P (.int as.length) S) : W (fLen [a] S) P := by
  refine ⟨_, _, ?_, k⟩
  have e := (lstOf_ty h).2.2
  cases a with
  | lst ds => cases h; rfl
  | ref l => simp [fLen, e]
  | _ => cases h
theorem wo_ixO {S : Sto} {a : D} {as : List D} {i : Int} {d : D} {P : D → Sto → Prop} (h : lstOf S a = some as) (h0 : 0 ≤ i) (e : as[i.toNat]? = some d) (k : P d S) : W (fIx a (.int i) S) P := by
  refine ⟨_, _, ?_, k⟩
  have e2 := (lstOf_ty h).2.2
  cases a with
  | lst ds => simp [fIx, e2, atI_nat h0 e]
  | ref l => simp [fIx, e2, atI_nat h0 e]
  | _ => cases h
theorem alike_ok {S : Sto} : ∀ {n : Nat} {a b : D}, Ak S n a b → W (F_alike n [a, b] S) fun o S' => o = .v (.bl true) ∧ S' = S
  | 0, _, _, h => by cases h
  | n + 1, a, b, h => by
    refine w_run rfl ?_
    show WS (bAlike (F_alike n) [.val a, .val b, .no] S) _
    unfold bAlike
    cases h with
    | non =>
      fail "OSTEP"
      refine ⟨fun _ => ?_, fun z => nomatch z⟩
      fail "OSTEP"
      exact ⟨rfl, rfl⟩
    | bl =>
      fail "OSTEP"
      refine ⟨fun z => (nomatch z), fun _ => ?_⟩
      fail "OSTEP"
      refine ⟨fun _ => ?_, fun z => nomatch z⟩
      fail "OSTEP"
      refine ⟨fun z => (nomatch z), fun _ => ?_⟩
      fail "OSTEP"
      simp
    | int =>
      fail "OSTEP"
      refine ⟨fun z => (nomatch z), fun _ => ?_⟩
      fail "OSTEP"
      refine ⟨fun z => (nomatch z), fun _ => ?_⟩
      fail "OSTEP"
      refine ⟨fun _ => ?_, fun z => nomatch z⟩
      fail "OSTEP"
      refine ⟨fun z => (nomatch z), fun _ => ?_⟩
      fail "OSTEP"
      refine ⟨fun z => (nomatch z), fun _ => ?_⟩
      fail "OSTEP"
      simp
    | str =>
      fail "OSTEP"
      refine ⟨fun z => (nomatch z), fun _ => ?_⟩
      fail "OSTEP"
      refine ⟨fun z => (nomatch z), fun _ => ?_⟩
      fail "OSTEP"
      refine ⟨fun z => (nomatch z), fun _ => ?_⟩
      fail "OSTEP"
      refine ⟨fun _ => ?_, fun z => nomatch z⟩
      fail "OSTEP"
      refine ⟨fun z => (nomatch z), fun _ => ?_⟩
      fail "OSTEP"
      simp
    | tup hl hz hk =>
      rename_i as bs
      fail "OSTEP"
      refine ⟨fun z => (nomatch z), fun _ => ?_⟩
      fail "OSTEP"
      refine ⟨fun z => (nomatch z), fun _ => ?_⟩
      fail "OSTEP"
      refine ⟨fun z => (nomatch z), fun _ => ?_⟩
      fail "OSTEP"
      refine ⟨fun z => (nomatch z), fun _ => ?_⟩
      fail "OSTEP"
      refine ⟨fun z => (nomatch z), fun _ => ?_⟩
      fail "OSTEP"
      refine ⟨fun z => (nomatch z), fun _ => ?_⟩
      fail "OSTEP"
      refine ⟨fun z => ?_, fun _ => ?_⟩
      · simp [hl] at z
      fail "OSTEP"
      refine ⟨by omega, ?_⟩
      refine ws_loop (fun _ ρ S1 => S1 = S ∧ ∃ z : Sl, ρ = [.val (.tup as), .val (.tup bs), z]) ⟨rfl, .no, rfl⟩ ?_ ?_
      · rintro k d ρ S1 hd ⟨rfl, z, rfl⟩
        obtain ⟨rfl, lt⟩ := rng_get hd
        have lt' : k < bs.length := by simpa using lt
        have ea : as[((0 : Int) + (k : Int)).toNat]? = some (as[k]'(by omega)) := by simp
        have eb : bs[((0 : Int) + (k : Int)).toNat]? = some (bs[k]'lt') := by simp
        fail "OSTEP"
        refine wo_ixT (by omega) ea ?_
        fail "OSTEP"
        refine wo_ixT (by omega) eb ?_
        fail "OSTEP"
        refine (alike_ok (hk k _ _ (by simp at ea; exact List.getElem?_eq_getElem (by omega)) (List.getElem?_eq_getElem lt'))).mono fun o S2 h => ?_
        obtain ⟨rfl, rfl⟩ := h
        fail "OSTEP"
        refine ⟨fun z => (nomatch z), fun _ => ?_⟩
        fail "OSTEP"
        exact ⟨rfl, _, rfl⟩
      · rintro ρ S1 ⟨rfl, z, rfl⟩
        fail "OSTEP"
        exact ⟨rfl, rfl⟩
    | lst h1 h2 hl hz hk =>
      rename_i as bs
      obtain ⟨ta, na, sa⟩ := lstOf_ty h1
      obtain ⟨tb, nb, sb⟩ := lstOf_ty h2
      fail "OSTEP"
      refine ⟨false, nb, ?_⟩
      fail "OSTEP"
      refine ⟨fun z => (nomatch z), fun _ => ?_⟩
      fail "OSTEP"
      refine wo_isT rfl tb ?_
      fail "OSTEP"
      refine ⟨fun z => (nomatch z), fun _ => ?_⟩
      fail "OSTEP"
      refine wo_isT rfl tb ?_
      fail "OSTEP"
      refine ⟨fun z => (nomatch z), fun _ => ?_⟩
      fail "OSTEP"
      refine wo_isT rfl tb ?_
      fail "OSTEP"
      refine ⟨fun z => (nomatch z), fun _ => ?_⟩
      fail "OSTEP"
      refine wo_isT rfl tb ?_
      fail "OSTEP"
      refine wo_isT rfl ta ?_
      fail "OSTEP"
      refine ⟨fun z => (nomatch z), fun _ => ?_⟩
      fail "OSTEP"
      refine wo_isT rfl tb ?_
      fail "OSTEP"
      refine wo_isT rfl ta ?_
      fail "OSTEP"
      refine ⟨fun z => (nomatch z), fun _ => ?_⟩
      fail "OSTEP"
      refine wo_lenO h1 ?_
      fail "OSTEP"
      refine wo_lenO h2 ?_
      fail "OSTEP"
      refine ⟨fun z => ?_, fun _ => ?_⟩
      · simp [hl] at z
      fail "OSTEP"
      refine wo_lenO h2 ?_
      fail "OSTEP"
      refine ⟨by omega, ?_⟩
      refine ws_loop (fun _ ρ S1 => S1 = S ∧ ∃ z : Sl, ρ = [.val a, .val b, z]) ⟨rfl, .no, rfl⟩ ?_ ?_
      · rintro k d ρ S1 hd ⟨rfl, z, rfl⟩
        obtain ⟨rfl, lt⟩ := rng_get hd
        have lt' : k < bs.length := by simpa using lt
        have ea : as[((0 : Int) + (k : Int)).toNat]? = some (as[k]'(by omega)) := by simp
        have eb : bs[((0 : Int) + (k : Int)).toNat]? = some (bs[k]'lt') := by simp
        fail "OSTEP"
        refine wo_ixO h1 (by omega) ea ?_
        fail "OSTEP"
        refine wo_ixO h2 (by omega) eb ?_
        fail "OSTEP"
        refine (alike_ok (hk k _ _ (List.getElem?_eq_getElem (by omega)) (List.getElem?_eq_getElem lt'))).mono fun o S2 h => ?_
        obtain ⟨rfl, rfl⟩ := h
        fail "OSTEP"
        refine ⟨fun z => (nomatch z), fun _ => ?_⟩
        fail "OSTEP"
        exact ⟨rfl, _, rfl⟩
      · rintro ρ S1 ⟨rfl, z, rfl⟩
        fail "OSTEP"
        exact ⟨rfl, rfl⟩
end AH
set_option maxRecDepth 100000
set_option maxHeartbeats 2000000
namespace AH
open PySem L2 TL
theorem cut_lo {α : Type} (xs : List α) (n : Nat) : cutL xs none (some (n : Int)) = xs.take n := by
  unfold cutL
  rw [HT.sIx_none, HT.sIx_nat, List.drop_zero, Nat.sub_zero, List.take_eq_take_iff]
  omega
theorem cut_hi {α : Type} (xs : List α) (n : Nat) : cutL xs (some (n : Int)) none = xs.drop n := by
  unfold cutL
  rw [HT.sIx_none, HT.sIx_nat]
  by_cases h : n ≤ xs.length
  · rw [Nat.min_eq_left h, List.take_of_length_le (by simp)]
  · rw [Nat.min_eq_right (by omega), List.drop_eq_nil_of_le (by omega), List.drop_eq_nil_of_le (by omega)]
    simp
theorem cut_mid {α : Type} (xs : List α) (a b : Nat) : cutL xs (some (a : Int)) (some (b : Int)) = (xs.drop a).take (b - a) := by
  unfold cutL
  rw [HT.sIx_nat, HT.sIx_nat]
  by_cases h : a ≤ xs.length
  · rw [Nat.min_eq_left h, List.take_eq_take_iff, List.length_drop]
    omega
  · rw [Nat.min_eq_right (Nat.le_of_lt (Nat.lt_of_not_le h)), List.drop_eq_nil_of_le (Nat.le_refl _), List.drop_eq_nil_of_le (by omega)]
    simp
theorem cut_neg {α : Type} (xs : List α) (h : Nat) (h0 : 0 < h) : cutL xs (some (-(h : Int))) none = xs.drop (xs.length - h) := by
  unfold cutL
  have e : HT.sIx xs.length 0 (some (-(h : Int))) = xs.length - h := by
    show (if (-(h : Int)) < 0 then ((-(h : Int)) + (xs.length : Int)).toNat else _) = _
    rw [if_pos (by omega)]
    omega
  rw [e, HT.sIx_none, List.take_of_length_le (by simp)]
theorem rng3_get {lo c : Int} {n k : Nat} {d : D} (h : (rng3 lo c n)[k]? = some d) : d = .int (lo + (k : Nat) * c) ∧ k < n := by
  unfold rng3 at h
  rw [List.getElem?_map] at h
  cases e : (List.range n)[k]? with
  | none => rw [e] at h; cases h
  | some j =>
    rw [e] at h
    cases h
    have l : k < n := by
      have z := (List.getElem?_eq_some_iff.mp e).1
      simpa using z
    rw [List.getElem?_range l] at e
    cases e
    exact ⟨rfl, l⟩
theorem rng3_len {lo c : Int} {n : Nat} : (rng3 lo c n).length = n := by
  unfold rng3
  simp
theorem strs_one : ∀ zs : List Nat, strsOf (zs.map fun c => D.str [c]) = some (zs.map fun c => [c])
  | [] => rfl
  | z :: zs => by
    show (strsOf (zs.map fun c => D.str [c])).map _ = _
    rw [strs_one zs]
    rfl
theorem join_one : ∀ zs : List Nat, joinD [] (zs.map fun c => [c]) = zs
  | [] => rfl
  | [z] => rfl
  | z :: y :: zs => by
    show [z] ++ ([] ++ joinD [] ((y :: zs).map fun c => [c])) = _
    rw [join_one (y :: zs)]
    rfl
theorem sum_one : ∀ zs : List Nat, ((zs.map fun c => [c]).map (·.length)).sum = zs.length
  | [] => rfl
  | z :: zs => by
    show 1 + ((zs.map fun c => [c]).map (·.length)).sum = zs.length + 1
    rw [sum_one zs]
    omega
theorem wo_joinC {S : Sto} {zs : List Nat} {P : D → Sto → Prop} (l : zs.length ≤ 16777216) (h : P (.str zs) S) : W (fJoin (.str []) [.lst (zs.map fun c => D.str [c])] S) P := by
  refine ⟨_, _, ?_, h⟩
  show ((strsOf (zs.map fun c => D.str [c])).bind _) = _
  rw [strs_one]
  show (if ((zs.map fun c => [c]).map (·.length)).sum + (zs.map fun c => [c]).length * 0 ≤ 16777216 then some (D.str (joinD [] (zs.map fun c => [c])), S) else none) = _
  rw [sum_one, join_one, if_pos (by omega)]
def okS (c : List Nat) : Prop := ∀ x ∈ c, x < 1114112
theorem okS_lay {c : List Nat} (h : okS c) : PyData.canLay0 (.str ⟨c.toArray⟩) = true := by
  show (c.toArray.all (· < 0x110000)) = true
  rw [← Array.all_toList, List.all_eq_true]
  intro x hx
  exact decide_eq_true (h x hx)
theorem toPys_strs : ∀ zs : List (List Nat), toPys (zs.map D.str) = some (zs.map fun c => PyData.str ⟨c.toArray⟩)
  | [] => rfl
  | z :: zs => by
    show (match toPy (.str z), toPys (zs.map D.str) with
      | some p, some ps => some (p :: ps)
      | _, _ => none) = _
    rw [toPys_strs zs]
    rfl
theorem lay_strs : ∀ zs : List (List Nat), (∀ c ∈ zs, okS c) → PyData.canLayAll0 (zs.map fun c => PyData.str ⟨c.toArray⟩) = true ∧ PyData.depthAll (zs.map fun c => PyData.str ⟨c.toArray⟩) = 0
  | [], _ => ⟨rfl, rfl⟩
  | z :: zs, h => by
    obtain ⟨h1, h2⟩ := lay_strs zs fun c hc => h c (List.mem_cons_of_mem _ hc)
    refine ⟨?_, ?_⟩
    · show (PyData.canLay0 (.str ⟨z.toArray⟩) && PyData.canLayAll0 _) = true
      rw [h1, okS_lay (h z (List.mem_cons_self ..))]
      rfl
    · show max (PyData.depth (.str ⟨z.toArray⟩)) (PyData.depthAll _) = 0
      rw [h2]
      rfl
theorem eqPy_self {p : PyData} (h : SeqAt.shaped p = true) : eqPy p p = some true := by
  unfold eqPy
  rw [if_pos ⟨h, h⟩, SeqAt.eqv_refl p (SeqAt.canLay_of_shaped h)]
theorem map_get {α : Type} {f : α → D} {xs : List α} {k : Nat} {d : D} (h : (xs.map f)[k]? = some d) : ∃ x, xs[k]? = some x ∧ d = f x := by
  rw [List.getElem?_map] at h
  cases e : xs[k]? with
  | none => rw [e] at h; cases h
  | some x => rw [e] at h; cases h; exact ⟨x, rfl, rfl⟩
end AH
set_option maxRecDepth 100000
set_option maxHeartbeats 4000000
namespace AH
open PySem L2 TL
theorem strsOf_map : ∀ zs : List (List Nat), strsOf (zs.map D.str) = some zs
  | [] => rfl
  | z :: zs => by
    show (strsOf (zs.map D.str)).map _ = _
    rw [strsOf_map zs]
    rfl
theorem wo_joinO {S : Sto} {a : D} {s : List Nat} {zs : List (List Nat)} {P : D → Sto → Prop} (ha : lstOf S a = some (zs.map .str)) (l : (zs.map (·.length)).sum + zs.length * s.length ≤ 16777216) (h : P (.str (joinD s zs)) S) : W (fJoin (.str s) [a] S) P := by
  refine ⟨_, _, ?_, h⟩
  show ((seqOf S a).bind fun ds => (strsOf ds).bind _) = _
  rw [(lstOf_ty ha).2.2]
  show ((strsOf (zs.map D.str)).bind _) = _
  rw [strsOf_map]
  exact if_pos l
theorem wo_index {S : Sto} {z : List Nat} {c : Nat} {P : D → Sto → Prop} (hc : c ∈ z) (h : P (.int (z.idxOf c)) S) : W (fIndexS (.str z) [.str [c]] S) P := ⟨_, _, if_pos hc, h⟩
theorem wo_split {S : Sto} {z : List Nat} {c : Nat} {P : List D → Sto → Prop} (l : c < 256 ∧ z.length + 2 ≤ 16777216) (h : P ((splitC c z).map .str) S) : W (fSplit (.str z) [.str [c]] S) P := ⟨_, _, if_pos (by rw [sizeLine_eq]; exact l), h⟩
theorem wo_intS {S : Sto} {z : List Nat} {P : D → Sto → Prop} (l : allDig z = true ∧ z ≠ [] ∧ z.length ≤ 600) (h : P (.int (decV z)) S) : W (fIntS [.str z] S) P := ⟨_, _, if_pos l, h⟩
theorem wo_neNI {S : Sto} {j : Int} {P : D → Sto → Prop} (h : P (.bl true) S) : W (fNe .non (.int j) S) P := w_ret h
theorem cut_upto1 {α : Type} (xs : List α) : cutL xs none (some (-1)) = xs.take (xs.length - 1) := by
  unfold cutL
  have e : HT.sIx xs.length xs.length (some (-1)) = xs.length - 1 := by
    show (if (-1 : Int) < 0 then ((-1 : Int) + (xs.length : Int)).toNat else min (-1 : Int).toNat xs.length) = _
    rw [if_pos (by omega)]
    omega
  rw [e, HT.sIx_none, List.drop_zero, Nat.sub_zero]
theorem cut_last1 {α : Type} (xs : List α) : cutL xs (some (-1)) none = xs.drop (xs.length - 1) := cut_neg xs 1 (by omega)
theorem chars_get {z : List Nat} {k : Nat} {d : D} (h : (chars z)[k]? = some d) : ∃ c, z[k]? = some c ∧ d = .str [c] := map_get h
theorem chars_len {z : List Nat} : (chars z).length = z.length := by
  unfold chars
  simp
/-- the signs of a text that are not of A -/
theorem wl_signs {it : EvL} {i : Nat} {t : EvT} {ρ : Rho} {S : Sto} {A : List Nat} {ρ1 : Nat → Rho} {P : List D → Sto → Prop} (hp : ∀ c, pNm i (.str [c]) (wipeR ρ [i]) = some (ρ1 c)) (hv : ∀ c, (ρ1 c)[i]? = some (.val (.str [c])))
    (h : W (it ρ S) fun all S1 => ∃ z : List Nat, all = chars z ∧ z.length ≤ 16777216 ∧ (∀ c, W (t (ρ1 c) S1) fun b S2 => b = !decide (c ∈ A) ∧ S2 = S1) ∧ P ((z.filter fun c => !decide (c ∈ A)).map fun c => D.str [c]) S1) : W (fLc it [i] (pNm i) t (eVar i) ρ S) P := by
  refine wl_lc (h.mono fun all S1 hh => ?_)
  obtain ⟨z, rfl, hz, ht, hP⟩ := hh
  refine ⟨fun k out S2 => S2 = S1 ∧ out = ((z.take k).filter fun c => !decide (c ∈ A)).map fun c => D.str [c], ⟨rfl, rfl⟩, ?_, ?_⟩
  · rintro k d out S2 hk ⟨rfl, rfl⟩
    obtain ⟨c, hc, rfl⟩ := chars_get hk
    refine ⟨_, hp c, (ht c).mono fun b S3 hb => ?_⟩
    obtain ⟨rfl, rfl⟩ := hb
    have e : z.take (k + 1) = z.take k ++ [c] := by
      rw [List.take_add_one, hc]
      rfl
    refine ⟨fun q => ⟨rfl, ?_⟩, fun q => we_var (hv c) ⟨rfl, ?_⟩⟩
    · rw [e, List.filter_append]
      simp only [List.filter_cons, q]
      simp
    · rw [e, List.filter_append]
      simp only [List.filter_cons, q]
      simp
  · rintro out S2 ⟨rfl, rfl⟩
    rw [chars_len, List.take_of_length_le (Nat.le_refl _)]
    refine ⟨?_, hP⟩
    rw [List.length_map]
    exact Nat.le_trans (List.length_filter_le _ _) hz
theorem eqv_strs_nil : ∀ zs : List (List Nat), PyData.eqvAll (zs.map fun c => PyData.str ⟨c.toArray⟩) [] = zs.isEmpty
  | [] => rfl
  | _ :: _ => rfl
theorem wo_neNil {S : Sto} {z : List Nat} {P : D → Sto → Prop} (ok : okS z) (h : P (.bl (!z.isEmpty)) S) : W (fNe (.lst (z.map fun c => D.str [c])) (.lst []) S) P := by
  refine ⟨_, _, ?_, h⟩
  have e : eqD S (.lst (z.map fun c => D.str [c])) (.lst []) = some z.isEmpty := by
    have e0 : (z.map fun c => D.str [c]) = (z.map fun c => [c]).map D.str := by simp
    rw [e0]
    show (match (toPys ((z.map fun c => [c]).map D.str)).map PyData.list, (toPys []).map PyData.list with
      | some p, some q => eqPy p q
      | _, _ => none) = _
    rw [toPys_strs]
    have hs : SeqAt.shaped (PyData.list ((z.map fun c => [c]).map fun c => PyData.str ⟨c.toArray⟩)) = true := by
      obtain ⟨h1, h2⟩ := lay_strs (z.map fun c => [c]) (by
        intro c hc
        rw [List.mem_map] at hc
        obtain ⟨x, hx, rfl⟩ := hc
        intro y hy
        rw [List.mem_singleton] at hy
        rw [hy]
        exact ok x hx)
      show (PyData.canLayAll0 _ && decide (PyData.depthAll _ + 1 ≤ 64)) = true
      rw [h1, h2]
      rfl
    show (if SeqAt.shaped (PyData.list ((z.map fun c => [c]).map fun c => PyData.str ⟨c.toArray⟩)) = true ∧ SeqAt.shaped (PyData.list []) = true then some (PyData.eqvAll ((z.map fun c => [c]).map fun c => PyData.str ⟨c.toArray⟩) []) else none) = _
    rw [if_pos ⟨hs, rfl⟩, eqv_strs_nil]
    cases z <;> rfl
  unfold fNe
  rw [e]
  rfl
theorem filt_empty {A z : List Nat} : (z.filter fun c => !decide (c ∈ A)).isEmpty = decide (∀ c ∈ z, c ∈ A) := by
  rw [Bool.eq_iff_iff, List.isEmpty_iff, List.filter_eq_nil_iff, decide_eq_true_iff]
  constructor
  · intro h c hc
    have := h c hc
    simpa using this
  · intro h c hc
    simpa using h c hc
theorem okS_filter {z : List Nat} {p : Nat → Bool} (h : okS z) : okS (z.filter p) := fun c hc => h c (List.mem_filter.mp hc).1
def sg : List Nat := [97, 98, 99, 100, 101, 102, 103, 104, 105, 106, 107, 108, 109, 110, 111, 112, 113, 114, 115, 116, 117, 118, 119, 120, 121, 122, 48, 49, 50, 51, 52, 53, 54, 55, 56, 57, 32, 62, 63, 60, 59]
def sb : List Nat := [97, 98, 99, 100, 101, 102, 103, 104, 105, 106, 107, 108, 109, 110, 111, 112, 113, 114, 115, 116, 117, 118, 119, 120, 121, 122, 48, 49, 50, 51, 52, 53, 54, 55, 56, 57, 32, 62, 63, 60, 59, 124]
def dg : List Nat := [48, 49, 50, 51, 52, 53, 54, 55, 56, 57]
theorem sb_lt : ∀ c ∈ sb, c < 128 := by decide
theorem sg_sb : ∀ c ∈ sg, c ∈ sb := by decide
theorem dg_iff {c : Nat} : c ∈ dg ↔ 48 ≤ c ∧ c ≤ 57 := by
  unfold dg
  simp
  omega
theorem sb_okS {z : List Nat} (h : ∀ c ∈ z, c ∈ sb) : okS z := fun c hc => Nat.lt_trans (sb_lt c (h c hc)) (by decide)
def sumV (z : List Nat) : Nat := z.foldl (fun f c => (f * 61 + sb.idxOf c + 1) % 9973) 0
theorem sumV_succ {z : List Nat} {k c : Nat} (h : z[k]? = some c) : sumV (z.take (k + 1)) = (sumV (z.take k) * 61 + sb.idxOf c + 1) % 9973 := by
  unfold sumV
  rw [List.take_add_one, h, List.foldl_append]
  rfl
theorem sumV_lt (z : List Nat) : sumV z < 9973 := by
  have h : ∀ (z : List Nat) (a : Nat), a < 9973 → z.foldl (fun f c => (f * 61 + sb.idxOf c + 1) % 9973) a < 9973 := by
    intro z
    induction z with
    | nil => exact fun a h => h
    | cons x z ih => exact fun a h => ih _ (Nat.mod_lt _ (by decide))
  exact h z 0 (by decide)
def bSum : EvS := (sSeq (sAsg (eC (.int 0)) (gNm 1))
  (sSeq (sFor (iS (eVar 0)) (gNm 2) (sAsg (e2 fMod (e2 fAdd (e2 fAdd (e2 fMul (eVar 1) (eC (.int 61))) (eM1 fIndexS (e2 fAdd (eC (.str sg)) (eC (.str [124]))) (eVar 2))) (eC (.int 1))) (eC (.int 9973))) (gNm 1)))
  (sRet (eVar 1))))
def F_sum : Fn := runB 1 3 bSum
theorem sum_ok {S : Sto} {z : List Nat} (hz : ∀ c ∈ z, c ∈ sb) : W (F_sum [.str z] S) fun o S' => o = .v (.int (sumV z)) ∧ S' = S := by
  refine w_run rfl ?_
  show WS (bSum [.val (.str z), .no, .no] S) _
  unfold bSum
  fail "OSTEP"
  refine ws_loop (fun k ρ S1 => S1 = S ∧ ∃ x : Sl, ρ = [.val (.str z), .val (.int (sumV (z.take k))), x]) ⟨rfl, _, rfl⟩ ?_ ?_
  · rintro k d ρ S1 hk ⟨rfl, x, rfl⟩
    obtain ⟨c, hc, rfl⟩ := chars_get hk
    fail "OSTEP"
    refine wo_mul (Or.inr (by decide)) ?_
    fail "OSTEP"
    refine wo_addS (by decide) ?_
    fail "OSTEP"
    refine wo_index (hz c (List.mem_of_getElem? hc)) ?_
    fail "OSTEP"
    refine wo_mod (by decide) ?_
    fail "OSTEP"
    refine ⟨rfl, .val (.str [c]), ?_⟩
    rw [sumV_succ hc]
    show [Sl.val (.str z), .val (.int (((sumV (z.take k) : Int) * 61 + (sb.idxOf c : Int) + 1) % 9973)), .val (.str [c])] = _
    have e : (((sumV (z.take k) : Int) * 61 + (sb.idxOf c : Int) + 1) % 9973) = (((sumV (z.take k) * 61 + sb.idxOf c + 1) % 9973 : Nat) : Int) := by omega
    rw [e]
  · rintro ρ S1 ⟨rfl, x, rfl⟩
    rw [chars_len, List.take_of_length_le (Nat.le_refl _)]
    fail "OSTEP"
    exact ⟨rfl, rfl⟩
def packV (fs : List (List Nat)) : List Nat := ((((numL (joinD [124] fs).length ++ [46]) ++ numL (sumV (joinD [124] fs))) ++ [46]) ++ joinD [124] fs) ++ [33]
def bPacked : EvS := (sSeq (sIf (tOrE (tOf (e2 fEq (eN fLen (aCons (eVar 0) aNil)) (eC (.int 0)))) (tOf (e2 fNe (eV (fLc (iS (eM1 fJoin (eC (.str [])) (eVar 0))) [1] (pNm 1) (tOf (e2 fNotInS (eVar 1) (eC (.str sg)))) (eVar 1))) (eV (fLst aNil))))) sNever sNext)
  (sSeq (sAsg (eM1 fJoin (eC (.str [124])) (eVar 0)) (gNm 2))
  (sRet (e2 fAdd (e2 fAdd (e2 fAdd (e2 fAdd (e2 fAdd (eN fStr (aCons (eN fLen (aCons (eVar 2) aNil)) aNil)) (eC (.str [46]))) (eN fStr (aCons (eN (callE F_sum) (aCons (eVar 2) aNil)) aNil))) (eC (.str [46]))) (eVar 2)) (eC (.str [33]))))))
def F_packed : Fn := runB 1 3 bPacked
theorem join_len {s : List Nat} : ∀ zs : List (List Nat), (joinD s zs).length ≤ (zs.map (·.length)).sum + zs.length * s.length
  | [] => Nat.zero_le _
  | [p] => by
    show p.length ≤ p.length + 0 + _
    omega
  | p :: q :: r => by
    have h := join_len (s := s) (q :: r)
    show (p ++ (s ++ joinD s (q :: r))).length ≤ (p.length + ((q :: r).map (·.length)).sum) + ((q :: r).length + 1) * s.length
    rw [List.length_append, List.length_append, Nat.succ_mul]
    omega
theorem join_mem {s : List Nat} {c : Nat} : ∀ {zs : List (List Nat)}, c ∈ joinD s zs → c ∈ s ∨ ∃ z ∈ zs, c ∈ z
  | [], h => by cases h
  | [p], h => .inr ⟨p, List.mem_singleton.mpr rfl, h⟩
  | p :: q :: r, h => by
    have h' : c ∈ p ++ (s ++ joinD s (q :: r)) := h
    rcases List.mem_append.mp h' with h | h
    · exact .inr ⟨p, List.mem_cons_self .., h⟩
    · rcases List.mem_append.mp h with h | h
      · exact .inl h
      · rcases join_mem h with h | ⟨z, hz, h⟩
        · exact .inl h
        · exact .inr ⟨z, List.mem_cons_of_mem _ hz, h⟩
/-- fields as packed wants them -/
structure Fs (fs : List (List Nat)) (n : Nat) : Prop where
  ne : fs ≠ []
  sg : ∀ z ∈ fs, ∀ c ∈ z, c ∈ sg
  le : (fs.map (·.length)).sum + fs.length ≤ n
theorem Fs.body {fs : List (List Nat)} {n : Nat} (h : Fs fs n) : (∀ c ∈ joinD [124] fs, c ∈ sb) ∧ (joinD [124] fs).length ≤ n := by
  refine ⟨fun c hc => ?_, ?_⟩
  · rcases join_mem hc with h1 | ⟨z, hz, h1⟩
    · rw [List.mem_singleton] at h1
      rw [h1]
      decide
    · exact sg_sb c (h.sg z hz c h1)
  · have := join_len (s := [124]) fs
    have h2 := h.le
    simp at this
    omega
theorem Fs.mono {fs : List (List Nat)} {n m : Nat} (h : Fs fs n) (l : n ≤ m) : Fs fs m := ⟨h.ne, h.sg, Nat.le_trans h.le l⟩
theorem numL_le {n k : Nat} (hk : 0 < k) (h : n < 10 ^ k) : (numL n).length ≤ k := numL_len hk h
theorem packed_ok {S : Sto} {a : D} {fs : List (List Nat)} (ha : lstOf S a = some (fs.map .str)) (h : Fs fs 900000) : W (F_packed [a] S) fun o S' => o = .v (.str (packV fs)) ∧ S' = S := by
  refine w_run rfl ?_
  show WS (bPacked [.val a, .no, .no] S) _
  unfold bPacked
  have hl := h.le
  fail "OSTEP"
  refine wo_lenO ha ?_
  fail "OSTEP"
  refine ⟨fun z => ?_, fun _ => ?_⟩
  · have z := of_decide_eq_true z
    rw [List.length_map] at z
    have : fs.length = 0 := by omega
    exact absurd (List.length_eq_zero_iff.mp this) h.ne
  fail "OSTEP"
  refine wl_signs (A := sg) (fun c => rfl) (fun c => rfl) ?_
  fail "OSTEP"
  refine wo_joinO ha (by simp; omega) ?_
  fail "OSTEP"
  refine ⟨by have := join_len (s := []) fs; simp at this; omega, fun c => ?_, ?_⟩
  · fail "OSTEP"
    exact ⟨rfl, rfl⟩
  have hs : ∀ c ∈ joinD [] fs, c ∈ sg := fun c hc => by
    rcases join_mem hc with h1 | ⟨z, hz, h1⟩
    · cases h1
    · exact h.sg z hz c h1
  fail "OSTEP"
  refine wo_neNil (okS_filter (sb_okS fun c hc => sg_sb c (hs c hc))) ?_
  rw [filt_empty, decide_eq_true hs]
  fail "OSTEP"
  refine ⟨fun z => (nomatch z), fun _ => ?_⟩
  fail "OSTEP"
  refine wo_joinO ha (by simp; omega) ?_
  fail "OSTEP"
  obtain ⟨hb, hbl⟩ := h.body
  refine wo_len (by omega) ?_
  fail "OSTEP"
  refine wo_strI ⟨by omega, by omega⟩ ?_
  have l1 : (numL (joinD [124] fs).length).length ≤ 6 := numL_le (by omega) (by omega)
  have l2 : (numL (sumV (joinD [124] fs))).length ≤ 6 := numL_le (by omega) (by have := sumV_lt (joinD [124] fs); omega)
  rw [Int.toNat_natCast]
  fail "OSTEP"
  refine wo_addS (by simp; omega) ?_
  fail "OSTEP"
  refine (sum_ok hb).mono fun o S1 e => ?_
  obtain ⟨rfl, rfl⟩ := e
  fail "OSTEP"
  refine wo_strI ⟨by omega, by have := sumV_lt (joinD [124] fs); omega⟩ ?_
  rw [Int.toNat_natCast]
  refine wo_addS (by simp; omega) ?_
  fail "OSTEP"
  refine wo_addS (by simp; omega) ?_
  fail "OSTEP"
  refine wo_addS (by simp; omega) ?_
  fail "OSTEP"
  refine wo_addS (by simp; omega) ?_
  fail "OSTEP"
  exact ⟨rfl, rfl⟩
def numV (w : List Nat) : Option Nat := if (1 ≤ w.length ∧ w.length ≤ 6) ∧ (∀ c ∈ w, c ∈ dg) ∧ (w.head? ≠ some 48 ∨ w = [48]) then some (decV w) else none
def numD : Option Nat → D
  | some n => .int n
  | none => .non
def bNumber : EvS := (sSeq (sIf (tOrE (tNotE (tOf (eChain fLe fLe (eC (.int 1)) (eN fLen (aCons (eVar 0) aNil)) (eC (.int 6))))) (tOf (e2 fNe (eV (fLc (iS (eVar 0)) [1] (pNm 1) (tOf (e2 fNotInS (eVar 1) (eC (.str dg)))) (eVar 1))) (eV (fLst aNil))))) (sRet (eC .non)) sNext)
  (sRet (eIf (tOrE (tOf (e2 fNe (e2 fIx (eVar 0) (eC (.int 0))) (eC (.str [48])))) (tOf (e2 fEq (eVar 0) (eC (.str [48]))))) (eN fIntS (aCons (eVar 0) aNil)) (eC .non))))
def F_number : Fn := runB 1 2 bNumber
theorem number_ok {S : Sto} {w : List Nat} (hl : w.length ≤ 16777216) (hw : okS w) : W (F_number [.str w] S) fun o S' => o = .v (numD (numV w)) ∧ S' = S := by
  refine w_run rfl ?_
  show WS (bNumber [.val (.str w), .no] S) _
  unfold bNumber
  have bad : ¬ ((1 ≤ w.length ∧ w.length ≤ 6) ∧ (∀ c ∈ w, c ∈ dg) ∧ (w.head? ≠ some 48 ∨ w = [48])) → numD (numV w) = .non := fun h => by
    unfold numV
    rw [if_neg h]
    rfl
  fail "OSTEP"
  refine wo_len hl ?_
  fail "OSTEP"
  refine ⟨fun z => ?_, fun z => ?_⟩
  · have z := of_decide_eq_false z
    fail "OSTEP"
    refine ⟨fun _ => ⟨fun _ => ?_, fun q => nomatch q⟩, fun q => nomatch q⟩
    fail "OSTEP"
    rw [bad (by omega)]
    exact ⟨rfl, rfl⟩
  have z1 := of_decide_eq_true z
  fail "OSTEP"
  refine ⟨fun z => ?_, fun z => ?_⟩
  · have z : decide ((w.length : Int) ≤ 6) = false := by simpa using z
    have z := of_decide_eq_false z
    refine ⟨fun _ => ?_, fun q => nomatch q⟩
    fail "OSTEP"
    rw [bad (by omega)]
    exact ⟨rfl, rfl⟩
  have z2 : decide ((w.length : Int) ≤ 6) = true := by simpa using z
  have z2 := of_decide_eq_true z2
  fail "OSTEP"
  refine wl_signs (A := dg) (fun c => rfl) (fun c => rfl) ?_
  fail "OSTEP"
  refine ⟨hl, fun c => ?_, ?_⟩
  · fail "OSTEP"
    exact ⟨rfl, rfl⟩
  fail "OSTEP"
  refine wo_neNil (okS_filter hw) ?_
  rw [filt_empty]
  fail "OSTEP"
  refine ⟨fun z => ?_, fun z => ?_⟩
  · have z : ¬ ∀ c ∈ w, c ∈ dg := fun q => by
      rw [decide_eq_true q] at z
      cases z
    fail "OSTEP"
    rw [bad fun q => z q.2.1]
    exact ⟨rfl, rfl⟩
  have z3 : ∀ c ∈ w, c ∈ dg := by
    by_cases q : ∀ c ∈ w, c ∈ dg
    · exact q
    · rw [decide_eq_false q] at z
      cases z
  fail "OSTEP"
  cases w with
  | nil => simp at z1
  | cons x w =>
    refine wo_ixS (c := x) hl (by decide) rfl ?_
    fail "OSTEP"
    have good : (x ≠ 48 ∨ x :: w = [48]) → W (fIntS [.str (x :: w)] S) fun d S1 => Out.v d = .v (numD (numV (x :: w))) ∧ S1 = S := fun q => by
      refine wo_intS ⟨?_, by simp, by omega⟩ ?_
      · unfold allDig
        rw [List.all_eq_true]
        exact fun c hc => decide_eq_true (dg_iff.mp (z3 c hc))
      · unfold numV
        rw [if_pos ⟨⟨by omega, by omega⟩, z3, by simpa using q⟩]
        exact ⟨rfl, rfl⟩
    refine ⟨fun q => ?_, fun q => ?_⟩
    · refine ⟨fun _ => ?_, fun z => nomatch z⟩
      fail "OSTEP"
      refine (good (.inl ?_)).mono fun d S1 h => ?_
      · intro e
        subst e
        simp at q
      fail "OSTEP"
      exact h
    · fail "OSTEP"
      refine ⟨fun r => ?_, fun r => ?_⟩
      · fail "OSTEP"
        refine (good (.inr (of_decide_eq_true r))).mono fun d S1 h => ?_
        fail "OSTEP"
        exact h
      · fail "OSTEP"
        rw [bad ?_]
        · exact ⟨rfl, rfl⟩
        · intro h
          have q : x = 48 := by simpa using q
          have r := of_decide_eq_false r
          rcases h.2.2 with h | h
          · exact h (by simp [q])
          · exact r h
def unpackV (t : List Nat) : Option (List (List Nat)) := match splitC 46 t with
  | [a, b, c] => if c.drop (c.length - 1) = [33] ∧ (∀ x ∈ c.take (c.length - 1), x ∈ sb) ∧ numV a = some (c.take (c.length - 1)).length ∧ numV b = some (sumV (c.take (c.length - 1))) then some (splitC 124 (c.take (c.length - 1))) else none
  | _ => none
def unpD : Option (List (List Nat)) → Out
  | some fs => .f (fs.map .str)
  | none => .v .non
def bUnpacked : EvS := (sSeq (sAsg (eV (eM1 fSplit (eVar 0) (eC (.str [46])))) (gNm 1))
  (sSeq (sIf (tOrE (tOf (e2 fNe (eN fLen (aCons (eVar 1) aNil)) (eC (.int 3)))) (tOf (e2 fNe (e3 fSl (e2 fIx (eVar 1) (eC (.int 2))) (oSome (e1 fNeg (eC (.int 1)))) oNone) (eC (.str [33]))))) (sRet (eC .non)) sNext)
  (sSeq (sAsg (e3 fSl (e2 fIx (eVar 1) (eC (.int 2))) oNone (oSome (e1 fNeg (eC (.int 1))))) (gNm 2))
  (sSeq (sIf (tOf (e2 fNe (eV (fLc (iS (eVar 2)) [3] (pNm 3) (tOf (e2 fNotInS (eVar 3) (e2 fAdd (eC (.str sg)) (eC (.str [124]))))) (eVar 3))) (eV (fLst aNil)))) (sRet (eC .non)) sNext)
  (sSeq (sIf (tOrE (tOf (e2 fNe (eN (callE F_number) (aCons (e2 fIx (eVar 1) (eC (.int 0))) aNil)) (eN fLen (aCons (eVar 2) aNil)))) (tOf (e2 fNe (eN (callE F_number) (aCons (e2 fIx (eVar 1) (eC (.int 1))) aNil)) (eN (callE F_sum) (aCons (eVar 2) aNil))))) (sRet (eC .non)) sNext)
  (sRetF (eM1 fSplit (eVar 2) (eC (.str [124])))))))))
def F_unpacked : Fn := runB 1 4 bUnpacked
theorem split_mem {c x : Nat} : ∀ {z p : List Nat}, p ∈ splitC c z → x ∈ p → x ∈ z
  | [], p, h, hx => by
    rw [splitC, List.mem_singleton] at h
    rw [h] at hx
    exact hx
  | y :: z, p, h, hx => by
    unfold splitC at h
    split at h
    · rcases List.mem_cons.mp h with h | h
      · rw [h] at hx
        cases hx
      · exact List.mem_cons_of_mem _ (split_mem h hx)
    · cases e : splitC c z with
      | nil => exact absurd e (splitC_ne c z)
      | cons q qs =>
        rw [e] at h
        rcases List.mem_cons.mp h with h | h
        · rw [h] at hx
          rcases List.mem_cons.mp hx with hx | hx
          · rw [hx]
            exact List.mem_cons_self ..
          · exact List.mem_cons_of_mem _ (split_mem (p := q) (by rw [e]; exact List.mem_cons_self ..) hx)
        · exact List.mem_cons_of_mem _ (split_mem (p := p) (by rw [e]; exact List.mem_cons_of_mem _ h) hx)
theorem split_len {c : Nat} : ∀ {z p : List Nat}, p ∈ splitC c z → p.length ≤ z.length
  | [], p, h => by
    rw [splitC, List.mem_singleton] at h
    rw [h]
    exact Nat.le_refl _
  | y :: z, p, h => by
    unfold splitC at h
    split at h
    · rcases List.mem_cons.mp h with h | h
      · rw [h]
        exact Nat.zero_le _
      · exact Nat.le_succ_of_le (split_len h)
    · cases e : splitC c z with
      | nil => exact absurd e (splitC_ne c z)
      | cons q qs =>
        rw [e] at h
        rcases List.mem_cons.mp h with h | h
        · rw [h]
          exact Nat.succ_le_succ (split_len (p := q) (by rw [e]; exact List.mem_cons_self ..))
        · exact Nat.le_succ_of_le (split_len (p := p) (by rw [e]; exact List.mem_cons_of_mem _ h))
theorem num_ne {o : Option Nat} {n : Nat} {S : Sto} {P : D → Sto → Prop} (h : P (.bl (!decide (o = some n))) S) : W (fNe (numD o) (.int n) S) P := by
  cases o with
  | none => exact wo_neNI h
  | some m =>
    refine wo_neI ?_
    have e : decide ((m : Int) = (n : Int)) = decide (some m = some n) := by
      by_cases q : m = n
      · subst q
        simp
      · have q2 : ¬ (m : Int) = (n : Int) := by omega
        have q3 : ¬ some m = some n := fun r => q (Option.some.inj r)
        rw [decide_eq_false q2, decide_eq_false q3]
    rw [e]
    exact h
theorem unpacked_ok {S : Sto} {t : List Nat} (hl : t.length ≤ 16000000) (ht : okS t) : W (F_unpacked [.str t] S) fun o S' => o = unpD (unpackV t) ∧ S' = S := by
  refine w_run rfl ?_
  show WS (bUnpacked [.val (.str t), .no, .no, .no] S) _
  unfold bUnpacked
  fail "OSTEP"
  refine wo_split ⟨by decide, by omega⟩ ?_
  fail "OSTEP"
  have hmem := @split_mem 46
  have hlen := @split_len 46
  unfold unpackV
  have three : (splitC 46 t).length = 3 → ∃ a b c, splitC 46 t = [a, b, c] := fun h => by
    match splitC 46 t, h with
    | [a, b, c], _ => exact ⟨a, b, c, rfl⟩
  refine ⟨fun z => ?_, fun z => ?_⟩
  · refine ⟨fun _ => ?_, fun q => nomatch q⟩
    fail "OSTEP"
    have z : (splitC 46 t).length ≠ 3 := fun q => by
      rw [List.length_map, q] at z
      cases z
    split
    · rename_i a b c e
      rw [e] at z
      exact absurd rfl z
    · exact ⟨rfl, rfl⟩
  have z1 : (splitC 46 t).length = 3 := by
    rw [List.length_map] at z
    simp at z
    omega
  obtain ⟨a, b, c, e⟩ := three z1
  have la := hlen (z := t) (p := a) (by rw [e]; simp)
  have lb := hlen (z := t) (p := b) (by rw [e]; simp)
  have lc := hlen (z := t) (p := c) (by rw [e]; simp)
  have oa : okS a := fun x hx => ht x (hmem (z := t) (p := a) (by rw [e]; simp) hx)
  have ob : okS b := fun x hx => ht x (hmem (z := t) (p := b) (by rw [e]; simp) hx)
  have oc : okS c := fun x hx => ht x (hmem (z := t) (p := c) (by rw [e]; simp) hx)
  rw [e]
  dsimp only
  have bad : ∀ {S1 : Sto} {ρ : Rho}, S1 = S → ¬ (c.drop (c.length - 1) = [33] ∧ (∀ x ∈ c.take (c.length - 1), x ∈ sb) ∧ numV a = some (c.take (c.length - 1)).length ∧ numV b = some (sumV (c.take (c.length - 1)))) →
    Out.v .non = unpD (if c.drop (c.length - 1) = [33] ∧ (∀ x ∈ c.take (c.length - 1), x ∈ sb) ∧ numV a = some (c.take (c.length - 1)).length ∧ numV b = some (sumV (c.take (c.length - 1))) then some (splitC 124 (c.take (c.length - 1))) else none) ∧ S1 = S := fun h q => by
    rw [if_neg q]
    exact ⟨rfl, h⟩
  fail "OSTEP"
  refine wo_ixL (d := .str c) (by decide) rfl ?_
  fail "OSTEP"
  refine wo_slS (by omega) ?_
  rw [cut_last1]
  fail "OSTEP"
  refine ⟨fun z => ?_, fun z => ?_⟩
  · fail "OSTEP"
    refine bad (ρ := []) rfl fun q => ?_
    rw [decide_eq_true q.1] at z
    cases z
  have z2 : c.drop (c.length - 1) = [33] := by
    by_cases q : c.drop (c.length - 1) = [33]
    · exact q
    · rw [decide_eq_false q] at z
      cases z
  fail "OSTEP"
  refine wo_ixL (d := .str c) (by decide) rfl ?_
  fail "OSTEP"
  refine wo_slS (by omega) ?_
  rw [cut_upto1]
  generalize hB : c.take (c.length - 1) = B at bad ⊢
  have lB : B.length ≤ c.length := by rw [← hB]; simp
  have oB : okS B := fun x hx => oc x (List.mem_of_mem_take (by rw [hB]; exact hx))
  fail "OSTEP"
  refine wl_signs (A := sb) (fun c => rfl) (fun c => rfl) ?_
  fail "OSTEP"
  refine ⟨by omega, fun c => ?_, ?_⟩
  · fail "OSTEP"
    refine wo_addS (by decide) ?_
    fail "OSTEP"
    exact ⟨rfl, rfl⟩
  fail "OSTEP"
  refine wo_neNil (okS_filter oB) ?_
  rw [filt_empty]
  fail "OSTEP"
  refine ⟨fun z => ?_, fun z => ?_⟩
  · fail "OSTEP"
    refine bad (ρ := []) rfl fun q => ?_
    rw [decide_eq_true q.2.1] at z
    cases z
  have z3 : ∀ x ∈ B, x ∈ sb := by
    by_cases q : ∀ x ∈ B, x ∈ sb
    · exact q
    · rw [decide_eq_false q] at z
      cases z
  fail "OSTEP"
  refine wo_ixL (d := .str a) (by decide) rfl ?_
  fail "OSTEP"
  refine (number_ok (by omega) oa).mono fun o S1 h => ?_
  obtain ⟨rfl, rfl⟩ := h
  fail "OSTEP"
  refine wo_len (by omega) ?_
  refine num_ne ?_
  fail "OSTEP"
  refine ⟨fun z => ?_, fun z => ?_⟩
  · refine ⟨fun _ => ?_, fun q => nomatch q⟩
    fail "OSTEP"
    refine bad (ρ := []) rfl fun q => ?_
    rw [decide_eq_true q.2.2.1] at z
    cases z
  have z4 : numV a = some B.length := by
    by_cases q : numV a = some B.length
    · exact q
    · rw [decide_eq_false q] at z
      cases z
  fail "OSTEP"
  refine wo_ixL (d := .str b) (by decide) rfl ?_
  fail "OSTEP"
  refine (number_ok (by omega) ob).mono fun o S1 h => ?_
  obtain ⟨rfl, rfl⟩ := h
  fail "OSTEP"
  refine (sum_ok z3).mono fun o S1 h => ?_
  obtain ⟨rfl, rfl⟩ := h
  fail "OSTEP"
  refine num_ne ?_
  fail "OSTEP"
  refine ⟨fun z => ?_, fun z => ?_⟩
  · fail "OSTEP"
    refine bad (ρ := []) rfl fun q => ?_
    rw [decide_eq_true q.2.2.2] at z
    cases z
  have z5 : numV b = some (sumV B) := by
    by_cases q : numV b = some (sumV B)
    · exact q
    · rw [decide_eq_false q] at z
      cases z
  fail "OSTEP"
  refine wo_split ⟨by decide, by omega⟩ ?_
  fail "OSTEP"
  rw [if_pos ⟨z2, z3, z4, z5⟩]
  exact ⟨rfl, rfl⟩
theorem split_none {c : Nat} : ∀ {z : List Nat}, c ∉ z → splitC c z = [z]
  | [], _ => rfl
  | x :: z, h => by
    have h1 : x ≠ c := fun e => h (by rw [e]; exact List.mem_cons_self ..)
    unfold splitC
    rw [if_neg h1, split_none fun q => h (List.mem_cons_of_mem _ q)]
theorem split_app {c : Nat} : ∀ {z r : List Nat}, c ∉ z → splitC c (z ++ c :: r) = z :: splitC c r
  | [], r, _ => by
    show splitC c (c :: r) = _
    rw [splitC, if_pos rfl]
  | x :: z, r, h => by
    have h1 : x ≠ c := fun e => h (by rw [e]; exact List.mem_cons_self ..)
    show splitC c (x :: (z ++ c :: r)) = _
    rw [splitC, if_neg h1, split_app fun q => h (List.mem_cons_of_mem _ q)]
theorem split_join {c : Nat} : ∀ {fs : List (List Nat)}, fs ≠ [] → (∀ z ∈ fs, c ∉ z) → splitC c (joinD [c] fs) = fs
  | [], h, _ => absurd rfl h
  | [p], _, h => split_none (h p (List.mem_cons_self ..))
  | p :: q :: r, _, h => by
    show splitC c (p ++ ([c] ++ joinD [c] (q :: r))) = _
    rw [List.singleton_append, split_app (h p (List.mem_cons_self ..)), split_join (by simp) fun z hz => h z (List.mem_cons_of_mem _ hz)]
theorem numL_head {n : Nat} : n ≠ 0 → (numL n).head? ≠ some 48 := by
  induction n using Nat.strongRecOn with
  | ind n ih =>
    intro h0
    by_cases h : n < 10
    · rw [numL_lt h]
      simp
      omega
    · rw [numL_step (by omega)]
      have h1 := ih (n / 10) (by omega) (by omega)
      cases e : numL (n / 10) with
      | nil => exact absurd e (numL_ne _)
      | cons x xs =>
        rw [e] at h1
        exact h1
theorem decV_num (n : Nat) : decV (numL n) = n := by
  induction n using Nat.strongRecOn with
  | ind n ih =>
    by_cases h : n < 10
    · rw [numL_lt h]
      show 0 * 10 + (48 + n - 48) = n
      omega
    · rw [numL_step (by omega)]
      unfold decV
      rw [List.foldl_append]
      have h1 := ih (n / 10) (by omega)
      unfold decV at h1
      rw [h1]
      show n / 10 * 10 + (48 + n % 10 - 48) = n
      omega
theorem numL_dg {n c : Nat} (h : c ∈ numL n) : c ∈ dg := dg_iff.mpr (by
  have r := numL_digits n c h
  omega)
theorem numV_num {n : Nat} (h : n < 1000000) : numV (numL n) = some n := by
  have h1 : (numL n).length ≤ 6 := numL_le (by omega) (by omega)
  have h2 : 1 ≤ (numL n).length := by
    cases e : numL n with
    | nil => exact absurd e (numL_ne n)
    | cons x xs => simp
  unfold numV
  rw [if_pos, decV_num]
  refine ⟨⟨h2, h1⟩, fun c hc => numL_dg hc, ?_⟩
  by_cases q : n = 0
  · subst q
    exact .inr (numL_lt (by omega))
  · exact .inl (numL_head q)
theorem unpack_pack {fs : List (List Nat)} (h : Fs fs 900000) : unpackV (packV fs) = some fs := by
  obtain ⟨hb, hl⟩ := h.body
  have n46 : ∀ n, (46 : Nat) ∉ numL n := fun n => numL_free (by omega)
  have e : splitC 46 (packV fs) = [numL (joinD [124] fs).length, numL (sumV (joinD [124] fs)), joinD [124] fs ++ [33]] := by
    have e1 : packV fs = numL (joinD [124] fs).length ++ 46 :: (numL (sumV (joinD [124] fs)) ++ 46 :: (joinD [124] fs ++ [33])) := by
      unfold packV
      simp
    rw [e1, split_app (n46 _), split_app (n46 _), split_none]
    intro q
    rcases List.mem_append.mp q with q | q
    · exact absurd (hb _ q) (by decide)
    · exact absurd (List.mem_singleton.mp q) (by decide)
  have ht : (joinD [124] fs ++ [33]).take ((joinD [124] fs ++ [33]).length - 1) = joinD [124] fs := by simp
  have hd : (joinD [124] fs ++ [33]).drop ((joinD [124] fs ++ [33]).length - 1) = [33] := by simp
  unfold unpackV
  rw [e]
  dsimp only
  rw [ht, hd, if_pos, split_join h.ne]
  · intro z hz q
    exact absurd (h.sg z hz _ q) (by decide)
  · exact ⟨rfl, hb, numV_num (by omega), numV_num (by have := sumV_lt (joinD [124] fs); omega)⟩
/-- a drawn one of some numbers -/
theorem draw_nat {S : Sto} {l m : Nat} {n : Nat} (b : Box S l m) (h0 : 0 < n) (h1 : n < 1073741824) : W (F_take [.ref l, .int n] S) fun o S' => ∃ r : Nat, o = .v (.int r) ∧ r < n ∧ Bx l m S S' :=
  (take_ok b (by omega) (by omega)).mono fun o S' h => by
    obtain ⟨r, rfl, hr, bx⟩ := h
    refine ⟨r.toNat, ?_, by omega, bx⟩
    rw [Int.toNat_of_nonneg hr.1]
theorem packV_len {fs : List (List Nat)} {n : Nat} (h : Fs fs n) (hn : n ≤ 900000) : (packV fs).length ≤ n + 15 := by
  obtain ⟨hb, hbl⟩ := h.body
  have l1 : (numL (joinD [124] fs).length).length ≤ 6 := numL_le (by omega) (by omega)
  have l2 : (numL (sumV (joinD [124] fs))).length ≤ 6 := numL_le (by omega) (by have := sumV_lt (joinD [124] fs); omega)
  unfold packV
  simp
  omega
theorem packV_okS {fs : List (List Nat)} {n : Nat} (h : Fs fs n) : okS (packV fs) := by
  obtain ⟨hb, hbl⟩ := h.body
  have hd : ∀ n, ∀ c ∈ numL n, c < 1114112 := fun n c hc => by
    have := dg_iff.mp (numL_dg hc)
    omega
  intro c hc
  unfold packV at hc
  simp only [List.mem_append, List.mem_singleton] at hc
  rcases hc with ((((hc | hc) | hc) | hc) | hc) | hc
  · exact hd _ c hc
  · omega
  · exact hd _ c hc
  · omega
  · have := sb_lt c (hb c hc)
    omega
  · omega
end AH
set_option maxRecDepth 100000
set_option maxHeartbeats 4000000
namespace AH
open PySem L2 TL
theorem join_cons {s p : List Nat} {qs : List (List Nat)} (h : qs ≠ []) : joinD s (p :: qs) = p ++ (s ++ joinD s qs) := by
  cases qs with
  | nil => exact absurd rfl h
  | cons q r => rfl
theorem join_cons1 {s p : List Nat} {x : Nat} : ∀ {qs : List (List Nat)}, joinD s ((x :: p) :: qs) = x :: joinD s (p :: qs)
  | [] => rfl
  | _ :: _ => rfl
theorem join_split {c : Nat} : ∀ z : List Nat, joinD [c] (splitC c z) = z
  | [] => rfl
  | x :: z => by
    unfold splitC
    split
    · rename_i h
      rw [join_cons (splitC_ne c z), join_split z, h]
      rfl
    · cases e : splitC c z with
      | nil => exact absurd e (splitC_ne c z)
      | cons p ps =>
        show joinD [c] ((x :: p) :: ps) = _
        rw [join_cons1, ← e, join_split z]
theorem split_free {c : Nat} : ∀ {z p : List Nat}, p ∈ splitC c z → c ∉ p
  | [], p, h => by
    rw [splitC, List.mem_singleton] at h
    rw [h]
    exact fun q => nomatch q
  | x :: z, p, h => by
    unfold splitC at h
    split at h
    · rcases List.mem_cons.mp h with h | h
      · rw [h]
        exact fun q => nomatch q
      · exact split_free h
    · rename_i hx
      cases e : splitC c z with
      | nil => exact absurd e (splitC_ne c z)
      | cons q qs =>
        rw [e] at h
        rcases List.mem_cons.mp h with h | h
        · rw [h]
          intro r
          rcases List.mem_cons.mp r with r | r
          · exact hx r.symm
          · exact split_free (z := z) (p := q) (by rw [e]; exact List.mem_cons_self ..) r
        · exact split_free (z := z) (p := p) (by rw [e]; exact List.mem_cons_of_mem _ h)
theorem sum_split {c : Nat} : ∀ z : List Nat, ((splitC c z).map (·.length)).sum + (splitC c z).length = z.length + 1
  | [] => rfl
  | x :: z => by
    have ih := sum_split (c := c) z
    unfold splitC
    split
    · rw [List.map_cons, List.sum_cons, List.length_cons, List.length_cons]
      show 0 + _ + _ = _
      omega
    · cases e : splitC c z with
      | nil => exact absurd e (splitC_ne c z)
      | cons q qs =>
        rw [e] at ih
        simp at ih ⊢
        omega
theorem decV_snoc (w : List Nat) (c : Nat) : decV (w ++ [c]) = decV w * 10 + (c - 48) := by
  unfold decV
  rw [List.foldl_append]
  rfl
theorem num_of_dec : ∀ (n : Nat) (w : List Nat), w.length = n → w ≠ [] → (∀ c ∈ w, c ∈ dg) → (w.head? ≠ some 48 ∨ w = [48]) → numL (decV w) = w
  | 0, w, hn, h, _, _ => absurd (List.length_eq_zero_iff.mp hn) h
  | n + 1, w, hn, h, hd, hh => by
    have e : w = w.dropLast ++ [w.getLast h] := (List.dropLast_concat_getLast h).symm
    generalize hu : w.dropLast = u at e
    generalize hx : w.getLast h = x at e
    have xd : 48 ≤ x ∧ x ≤ 57 := dg_iff.mp (hd x (by rw [← hx]; exact List.getLast_mem h))
    have ud : ∀ c ∈ u, c ∈ dg := fun c hc => hd c (by rw [e]; exact List.mem_append_left _ hc)
    by_cases hu0 : u = []
    · subst hu0
      rw [e]
      show numL (0 * 10 + (x - 48)) = [x]
      rw [numL_lt (by omega)]
      congr 1
      omega
    · have ulen : u.length = n := by
        have := congrArg List.length e
        simp at this
        omega
      have uh : u.head? ≠ some 48 := by
        rcases hh with hh | hh
        · rw [e] at hh
          cases u with
          | nil => exact absurd rfl hu0
          | cons y ys => exact hh
        · rw [hh] at e
          cases u with
          | nil => exact absurd rfl hu0
          | cons y ys =>
            have := congrArg List.length e
            simp at this
      have ih := num_of_dec n u ulen hu0 ud (.inl uh)
      have pos : 0 < decV u := by
        refine Nat.pos_of_ne_zero fun z => ?_
        rw [z, numL_lt (by omega)] at ih
        exact uh (by rw [← ih]; rfl)
      rw [e, decV_snoc, numL_step (by omega)]
      have e1 : (decV u * 10 + (x - 48)) / 10 = decV u := by omega
      have e2 : 48 + (decV u * 10 + (x - 48)) % 10 = x := by omega
      rw [e1, e2, ih]
theorem numV_back {w : List Nat} {n : Nat} (h : numV w = some n) : w = numL n := by
  unfold numV at h
  split at h
  · rename_i q
    cases h
    exact (num_of_dec _ w rfl (by intro z; rw [z] at q; simp at q) q.2.1 q.2.2).symm
  · cases h
theorem sb_sg {c : Nat} (h : c ∈ sb) (n : c ≠ 124) : c ∈ sg := by
  have e : sb = sg ++ [124] := rfl
  rw [e] at h
  rcases List.mem_append.mp h with h | h
  · exact h
  · exact absurd (List.mem_singleton.mp h) n
theorem fs_split {B : List Nat} (h : ∀ c ∈ B, c ∈ sb) : Fs (splitC 124 B) (B.length + 1) := ⟨splitC_ne _ _, fun z hz c hc => sb_sg (h c (split_mem hz hc)) fun e => split_free hz (by rw [← e]; exact hc), by rw [sum_split]; exact Nat.le_refl _⟩
theorem pack_split (B : List Nat) : packV (splitC 124 B) = ((((numL B.length ++ [46]) ++ numL (sumV B)) ++ [46]) ++ B) ++ [33] := by
  unfold packV
  rw [join_split]
theorem unpack_is {t : List Nat} {fs : List (List Nat)} (h : unpackV t = some fs) : t = packV fs ∧ Fs fs (t.length + 1) := by
  unfold unpackV at h
  split at h
  · rename_i a b c e
    split at h
    · rename_i q
      cases h
      obtain ⟨h1, h2, h3, h4⟩ := q
      generalize hB : c.take (c.length - 1) = B at h2 h3 h4 ⊢
      have ec : c = B ++ [33] := by
        rw [← hB, ← h1]
        exact (List.take_append_drop _ _).symm
      have et : t = a ++ 46 :: (b ++ 46 :: c) := by
        have := join_split (c := 46) t
        rw [e] at this
        rw [← this]
        rfl
      have ea := numV_back h3
      have eb := numV_back h4
      refine ⟨?_, (fs_split h2).mono ?_⟩
      · rw [pack_split, ← ea, ← eb, et, ec]
        simp
      · rw [et, ec]
        simp
        omega
    · cases h
  · cases h
/-- the sign that ends a letter stands nowhere else -/
theorem pack_end {fs : List (List Nat)} {n : Nat} (h : Fs fs n) : ∃ u, packV fs = u ++ [33] ∧ (33 : Nat) ∉ u := by
  refine ⟨_, rfl, fun q => ?_⟩
  simp only [List.mem_append, List.mem_singleton] at q
  rcases q with (((q | q) | q) | q) | q
  · exact numL_free (by omega) q
  · omega
  · exact numL_free (by omega) q
  · omega
  · exact absurd (h.body.1 _ q) (by decide)
theorem unpack_cut {fs : List (List Nat)} {n e : Nat} (h : Fs fs n) (he : e < (packV fs).length) : unpackV ((packV fs).take e) = none := by
  cases q : unpackV ((packV fs).take e) with
  | none => rfl
  | some gs =>
    obtain ⟨h1, h2⟩ := unpack_is q
    obtain ⟨u, hu, hn⟩ := pack_end h
    obtain ⟨v, hv, _⟩ := pack_end h2
    rw [hv] at h1
    have hm : (33 : Nat) ∈ (packV fs).take e := by
      rw [h1]
      simp
    have hl : (packV fs).length = u.length + 1 := by
      rw [hu]
      simp
    rw [hu, List.take_append_of_le_length (by omega)] at hm
    exact absurd (List.mem_of_mem_take hm) hn
end AH
set_option maxRecDepth 100000
set_option maxHeartbeats 2000000
namespace AH
open PySem L2 TL Classical
section
variable {α β : Type} {P : α → Sto → Prop} {S S1 : Sto} {ρ : Rho} {Q : PS}
theorem forLP_from {pre : Sto → Prop} {g : EvG} {b : EvS} {all : List D} (I : Nat → Rho → Sto → Prop) (hp : ∀ k ρ S, I k ρ S → pre S) (step : ∀ k d ρ S, all[k]? = some d → I k ρ S → W (g d ρ S) fun ρ1 S1 => WS (b ρ1 S1) (lp (I (k + 1)) Q)) (fin : ∀ ρ S, I all.length ρ S → Q .nx ρ S) :
    ∀ (ds : List D) (k : Nat) ρ S, all.drop k = ds → k ≤ all.length → I k ρ S → WS (forLP pre g b ds ρ S) Q
  | [], k, ρ, S, e, hk, i => by
    have l : all.length ≤ k := List.drop_eq_nil_iff.mp e
    have e2 : k = all.length := by omega
    subst e2
    refine ⟨.nx, ρ, S, ?_, fin ρ S i⟩
    unfold forLP
    rw [if_pos (hp _ _ _ i)]
  | d :: ds, k, ρ, S, e, hk, i => by
    have hd : all[k]? = some d := by
      have z := congrArg (·[0]?) e
      simpa using z
    have lt : k < all.length := (List.getElem?_eq_some_iff.mp hd).1
    have e2 : all.drop (k + 1) = ds := by
      rw [← List.tail_drop, e]
      rfl
    obtain ⟨ρ1, S1, e1, f, ρ2, S2, e3, p⟩ := step k d ρ S hd i
    unfold forLP
    rw [if_pos (hp _ _ _ i), e1]
    dsimp only
    rw [e3]
    cases f with
    | nx => exact forLP_from I hp step fin ds (k + 1) ρ2 S2 e2 lt p
    | ct => exact forLP_from I hp step fin ds (k + 1) ρ2 S2 e2 lt p
    | bk => exact ⟨_, _, _, rfl, p⟩
    | rt d => exact ⟨_, _, _, rfl, p⟩
    | rf ds => exact ⟨_, _, _, rfl, p⟩
theorem onLst_go {γ : Type} {x : D} {ds : List D} {f : (Sto → Prop) → List D → Sto → Option γ} (h : lstOf S x = some ds) : ∃ pre, onLst (x, S) f = f pre ds S ∧ ∀ S2, lstOf S2 x = some ds → pre S2 := by
  unfold lstOf at h
  split at h
  · cases h
    exact ⟨_, rfl, fun _ _ => trivial⟩
  · rename_i l
    split at h
    · rename_i es g
      cases h
      refine ⟨fun S => S.get l = some (.lst ds), ?_, fun S2 h2 => ?_⟩
      · unfold onLst
        dsimp only
        rw [g]
      · unfold lstOf at h2
        dsimp only at h2
        split at h2
        · rename_i zs g2
          cases h2
          exact g2
        · cases h2
    · cases h
  · cases h
theorem ws_forR {e : Ev} {g : EvG} {b : EvS} (h : W (e ρ S) fun x S1 => ∃ all, lstOf S1 x = some all ∧ ∃ I : Nat → Rho → Sto → Prop, (∀ k ρ S2, I k ρ S2 → lstOf S2 x = some all) ∧ I 0 ρ S1 ∧
    (∀ k d ρ S, all[k]? = some d → I k ρ S → W (g d ρ S) fun ρ1 S1 => WS (b ρ1 S1) (lp (I (k + 1)) Q)) ∧ ∀ ρ S, I all.length ρ S → Q .nx ρ S) : WS (sForR e g b ρ S) Q :=
  ws_bind (h.mono fun x S1 ⟨all, hx, I, hp, i0, step, fin⟩ => by
    obtain ⟨pre, e1, e2⟩ := onLst_go (γ := Fl × Rho × Sto) (f := fun pre ds S1 => forLP pre g b ds ρ S1) hx
    rw [e1]
    exact forLP_from I (fun k ρ S2 i => e2 S2 (hp k ρ S2 i)) step fin all 0 ρ S1 rfl (Nat.zero_le _) i0)
end
end AH
set_option maxRecDepth 100000
set_option maxHeartbeats 2000000
namespace AH
open PySem L2 TL
section
variable {α β : Type} {P : α → Sto → Prop} {S S1 : Sto} {ρ : Rho} {Q : PS}
theorem we_fld {c i : Nat} {a : Ev} {P : D → Sto → Prop} (h : W (a ρ S) fun x S1 => ∃ l fs d, x = .ref l ∧ S1.get l = some (.ins c fs) ∧ fs[i]? = some d ∧ P d S1) : W (eFld c i a ρ S) P := w_bind (h.mono fun x S1 ⟨l, fs, d, e, g, q, p⟩ => by
  subst e
  refine ⟨d, S1, ?_, p⟩
  simp only [g, q, if_true, Option.map_some])
theorem ws_putF {c i : Nat} {eo ev : Ev} (h : W (ev ρ S) fun y S1 => W (eo ρ S1) fun x S2 => ∃ l fs ds, x = .ref l ∧ S2.get l = some (.ins c fs) ∧ putL fs i y = some ds ∧ Q .nx ρ (S2.set l (.ins c ds))) : WS (sPutF c i eo ev ρ S) Q := ws_bind (h.mono fun y S1 q => ws_bind (q.mono fun x S2 ⟨l, fs, ds, e, g, q, p⟩ => by
  subst e
  refine ⟨.nx, ρ, _, ?_, p⟩
  simp only [g, q, if_true, Option.map_some]))
theorem wg_fd {c i : Nat} {eo : Ev} {d : D} {P : Rho → Sto → Prop} (h : W (eo ρ S) fun x S2 => ∃ l fs ds, x = .ref l ∧ S2.get l = some (.ins c fs) ∧ putL fs i d = some ds ∧ P ρ (S2.set l (.ins c ds))) : W (gFd c i eo d ρ S) P := w_bind (h.mono fun x S2 ⟨l, fs, ds, e, g, q, p⟩ => by
  subst e
  refine ⟨ρ, _, ?_, p⟩
  simp only [g, q, if_true, Option.map_some])
theorem wg_tp {n : Nat} {hh : EvGs} {ds : List D} {P : Rho → Sto → Prop} (l : ds.length = n) (h : W (hh ds ρ S) P) : W (gTp n hh (.tup ds) ρ S) P := by
  obtain ⟨a, b, e, p⟩ := h
  refine ⟨a, b, ?_, p⟩
  unfold gTp
  dsimp only
  rw [if_pos l]
  exact e
theorem wg_cons {g : EvG} {hh : EvGs} {d : D} {ds : List D} {P : Rho → Sto → Prop} (h : W (g d ρ S) fun ρ1 S1 => W (hh ds ρ1 S1) P) : W (gsCons g hh (d :: ds) ρ S) P := by
  obtain ⟨a, b, e, a2, b2, e2, p⟩ := h
  refine ⟨a2, b2, ?_, p⟩
  unfold gsCons
  dsimp only
  rw [e]
  exact e2
theorem wg_nil {P : Rho → Sto → Prop} (h : P ρ S) : W (gsNil [] ρ S) P := ⟨_, _, rfl, h⟩
theorem we_mk {c : Nat} {F : Fn} {el : EvL} {P : D → Sto → Prop} (h : W (el ρ S) fun ds S1 => W (F (.ref S1.next :: ds) (S1.new (.ins c []))) fun o S2 => o = .v .non ∧ P (.ref S1.next) S2) : W (eMk c F el ρ S) P := w_bind (h.mono fun ds S1 q => by
  obtain ⟨o, S2, e, rfl, p⟩ := q
  refine ⟨.ref S1.next, S2, ?_, p⟩
  dsimp only
  rw [e]
  rfl)
theorem we_mt {c : Nat} {F : Fn} {eo : Ev} {el : EvL} {P : D → Sto → Prop} (h : W (eo ρ S) fun x S1 => ∃ l fs, x = .ref l ∧ S1.get l = some (.ins c fs) ∧ W (el ρ S1) fun ds S2 => W (callE F (.ref l :: ds) S2) P) : W (eMt c F eo el ρ S) P := w_bind (h.mono fun x S1 ⟨l, fs, e, g, q⟩ => by
  subst e
  dsimp only
  rw [g]
  dsimp only
  rw [if_pos rfl]
  exact w_bind q)
theorem we_mtF {c : Nat} {F : Fn} {eo : Ev} {el : EvL} {P : List D → Sto → Prop} (h : W (eo ρ S) fun x S1 => ∃ l fs, x = .ref l ∧ S1.get l = some (.ins c fs) ∧ W (el ρ S1) fun ds S2 => W (callF F (.ref l :: ds) S2) P) : W (fMt c F eo el ρ S) P := w_bind (h.mono fun x S1 ⟨l, fs, e, g, q⟩ => by
  subst e
  dsimp only
  rw [g]
  dsimp only
  rw [if_pos rfl]
  exact w_bind q)
theorem ws_par3 {i j l : Nat} {a b c : Ev} (h : W (a ρ S) fun x S1 => W (b ρ S1) fun y S2 => W (c ρ S2) fun z S3 => (i < ρ.length ∧ j < ρ.length ∧ l < ρ.length) ∧ Q .nx (((ρ.set i (.val x)).set j (.val y)).set l (.val z)) S3) : WS (sPar3 i j l a b c ρ S) Q :=
  ws_bind (h.mono fun x S1 q => ws_bind (q.mono fun y S2 q => ws_bind (q.mono fun z S3 ⟨l, k⟩ => ⟨.nx, _, S3, if_pos l, k⟩)))
theorem wi_ES {a : EvL} {P : List D → Sto → Prop} (h : W (a ρ S) fun x S1 => ∃ z, x = [.str z] ∧ P (enumS z) S1) : W (iES a ρ S) P := w_bind (h.mono fun x S1 ⟨ds, e, p⟩ => by
  subst e
  exact w_ret p)
end
end AH
set_option maxRecDepth 100000
set_option maxHeartbeats 4000000
namespace AH
open PySem L2 TL
def b_need_signs : EvS := (sFor (iES (aCons (eVar 0) aNil)) (gTp 2 (gsCons (gNm 1) (gsCons (gNm 2) gsNil))) (sIf (tOf (e2 fNotInS (eVar 2) (e2 fAdd (e2 fAdd (e2 fAdd (e2 fAdd (eC (.str [97, 98, 99, 100, 101, 102, 103, 104, 105, 106, 107, 108, 109, 110, 111, 112, 113, 114, 115, 116, 117, 118, 119, 120, 121, 122])) (eC (.str [48, 49, 50, 51, 52, 53, 54, 55, 56, 57]))) (eC (.str [32]))) (eC (.str [60]))) (eC (.str [59]))))) sNever sNext))
def F_need_signs : Fn := runB 1 3 b_need_signs
def b_changed : EvS := (sSeq (sAsg (eVar 2) (gTp 2 (gsCons (gNm 3) (gsCons (gNm 4) gsNil))))
  (sSeq (sIf (tOf (e2 fEq (eVar 3) (eC (.str [108, 105, 110, 101])))) (sRet (eTup (aCons (eVar 0) (aCons (eVar 4) aNil)))) sNext)
  (sSeq (sIf (tOf (e2 fEq (eVar 3) (eC (.str [99, 108, 101, 97, 114])))) (sRet (eTup (aCons (eV (fLst aNil)) (aCons (eVar 1) aNil)))) sNext)
  (sRet (eTup (aCons (eV (e3 fSlL (eV (e2 fCat (eVar 0) (eV (fLst (aCons (eVar 4) aNil))))) (oSome (e2 fSub (eC (.int 0)) (eC (.int 40)))) oNone)) (aCons (eVar 1) aNil)))))))
def F_changed : Fn := runB 3 5 b_changed
def b_count_of : EvS := (sSeq (sAsg (eV (eM1 fSplit (eVar 0) (eC (.str [32])))) (gNm 1))
  (sSeq (sIf (tOrE (tOf (e2 fNe (eN fLen (aCons (eVar 1) aNil)) (eC (.int 2)))) (tOrE (tOf (e2 fNe (e2 fIx (eVar 1) (eC (.int 0))) (eC (.str [109, 97, 110, 121])))) (tNotE (tOf (eChain fLe fLe (eC (.int 1)) (eN fLen (aCons (e2 fIx (eVar 1) (eC (.int 1))) aNil)) (eC (.int 2))))))) (sRet (eC .non)) sNext)
  (sSeq (sIf (tOrE (tOf (e2 fNe (eV (fLc (iS (e2 fIx (eVar 1) (eC (.int 1)))) [2] (pNm 2) (tOf (e2 fNotInS (eVar 2) (eC (.str [48, 49, 50, 51, 52, 53, 54, 55, 56, 57])))) (eVar 2))) (eV (fLst aNil)))) (tOf (e2 fEq (e2 fIx (e2 fIx (eVar 1) (eC (.int 1))) (eC (.int 0))) (eC (.str [48]))))) (sRet (eC .non)) sNext)
  (sRet (eN fIntS (aCons (e2 fIx (eVar 1) (eC (.int 1))) aNil))))))
def F_count_of : Fn := runB 1 3 b_count_of
def b_Pane___init__ : EvS := (sSeq (sPutF 0 0 (eVar 0) (eV (fLst aNil)))
  (sSeq (sPutF 0 1 (eVar 0) (eC (.str [])))
  (sSeq (sPutF 0 2 (eVar 0) (eC .non))
  (sSeq (sPutF 0 3 (eVar 0) (eC (.int 0)))
  (sSeq (sPutF 0 4 (eVar 0) (eV (fLst aNil)))
  (sPutF 0 5 (eVar 0) (eV (fLst aNil))))))))
def F_Pane___init__ : Fn := runB 1 1 b_Pane___init__
def b_Pane_change : EvS := (sSeq (sAsg (eN (callE F_changed) (aCons (eFld 0 0 (eVar 0)) (aCons (eFld 0 1 (eVar 0)) (aCons (eTup (aCons (eVar 1) (aCons (eVar 2) aNil))) aNil)))) (gTp 2 (gsCons (gFd 0 0 (eVar 0)) (gsCons (gFd 0 1 (eVar 0)) gsNil))))
  (sSeq (sPutF 0 3 (eVar 0) (e2 fAdd (eFld 0 3 (eVar 0)) (eC (.int 1))))
  (sPutF 0 4 (eVar 0) (eV (e3 fSlL (eV (e2 fCat (eFld 0 4 (eVar 0)) (eV (fLst (aCons (eTup (aCons (eVar 1) (aCons (eVar 2) aNil))) aNil))))) (oSome (e2 fSub (eC (.int 0)) (eC (.int 30)))) oNone)))))
def F_Pane_change : Fn := runB 3 3 b_Pane_change
def b_Pane_do : EvS := (sSeq (sDo (eMt 0 F_Pane_change (eVar 0) (aCons (eC (.str [114, 111, 119])) (aCons (e2 fAdd (eC (.str [62, 32])) (eVar 1)) aNil))))
  (sSeq (sIf (tOf (e2 fNe (eVar 1) (eC (.str [])))) (sDo (eMt 0 F_Pane_change (eVar 0) (aCons (eC (.str [108, 105, 110, 101])) (aCons (eC (.str [])) aNil)))) sNext)
  (sIf (tOf (e2 fEq (e3 fSl (eVar 1) oNone (oSome (eC (.int 4)))) (eC (.str [115, 97, 121, 32])))) (sDo (eMt 0 F_Pane_change (eVar 0) (aCons (eC (.str [114, 111, 119])) (aCons (e3 fSl (eVar 1) (oSome (eC (.int 4))) oNone) aNil)))) (sIf (tOf (e2 fEq (eVar 1) (eC (.str [99, 108, 101, 97, 114])))) (sDo (eMt 0 F_Pane_change (eVar 0) (aCons (eC (.str [99, 108, 101, 97, 114])) (aCons (eC (.str [])) aNil)))) (sIf (tAndE (tOf (e2 fEq (eVar 1) (eC (.str [115, 116, 111, 112])))) (tOf (eNotN (eFld 0 2 (eVar 0))))) (sPutF 0 2 (eVar 0) (eC .non)) (sIf (tOf (eNotN (eN (callE F_count_of) (aCons (eVar 1) aNil)))) (sPutF 0 2 (eVar 0) (eTup (aCons (eC (.int 0)) (aCons (eN (callE F_count_of) (aCons (eVar 1) aNil)) aNil)))) (sIf (tOf (e2 fNe (eVar 1) (eC (.str [])))) (sDo (eMt 0 F_Pane_change (eVar 0) (aCons (eC (.str [114, 111, 119])) (aCons (e2 fAdd (eC (.str [63, 32])) (eVar 1)) aNil)))) sNext)))))))
def F_Pane_do : Fn := runB 2 2 b_Pane_do
def b_Pane_press : EvS := (sSeq (sDo (eN (callE F_need_signs) (aCons (eVar 3) aNil)))
  (sSeq (sPutF 0 5 (eVar 0) (eV (e3 fSlL (eV (e2 fCat (eFld 0 5 (eVar 0)) (eV (fLst (aCons (eTup (aCons (eVar 1) (aCons (eVar 2) (aCons (eVar 3) aNil)))) aNil))))) (oSome (e2 fSub (eC (.int 0)) (eC (.int 100)))) oNone)))
  (sIf (tOf (e2 fEq (eVar 3) (eC (.str [59])))) (sDo (eMt 0 F_Pane_do (eVar 0) (aCons (eFld 0 1 (eVar 0)) aNil))) (sIf (tOf (e2 fEq (eVar 3) (eC (.str [60])))) (sIf (tOf (e2 fNe (eFld 0 1 (eVar 0)) (eC (.str [])))) (sDo (eMt 0 F_Pane_change (eVar 0) (aCons (eC (.str [108, 105, 110, 101])) (aCons (e3 fSl (eFld 0 1 (eVar 0)) oNone (oSome (e1 fNeg (eC (.int 1))))) aNil)))) sNext) (sIf (tOf (e2 fLt (eN fLen (aCons (eFld 0 1 (eVar 0)) aNil)) (eC (.int 30)))) (sDo (eMt 0 F_Pane_change (eVar 0) (aCons (eC (.str [108, 105, 110, 101])) (aCons (e2 fAdd (eFld 0 1 (eVar 0)) (eVar 3)) aNil)))) sNext)))))
def F_Pane_press : Fn := runB 4 4 b_Pane_press
def b_Pane_rows : EvS := (sRetF (eN fListOf (aCons (eFld 0 0 (eVar 0)) aNil)))
def F_Pane_rows : Fn := runB 1 1 b_Pane_rows
def b_Pane_line : EvS := (sRet (eFld 0 1 (eVar 0)))
def F_Pane_line : Fn := runB 1 1 b_Pane_line
def b_Pane_changes : EvS := (sRet (eFld 0 3 (eVar 0)))
def F_Pane_changes : Fn := runB 1 1 b_Pane_changes
def b_Pane_since : EvS := (sSeq (sIf (tNotE (tOf (eChain fLe fLe (e2 fSub (eFld 0 3 (eVar 0)) (eN fLen (aCons (eFld 0 4 (eVar 0)) aNil))) (eVar 1) (eFld 0 3 (eVar 0))))) (sRet (eC .non)) sNext)
  (sRetF (e3 fSlL (eFld 0 4 (eVar 0)) (oSome (e2 fSub (eN fLen (aCons (eFld 0 4 (eVar 0)) aNil)) (e2 fSub (eFld 0 3 (eVar 0)) (eVar 1)))) oNone)))
def F_Pane_since : Fn := runB 2 2 b_Pane_since
def b_Pane_typed : EvS := (sRetF (eN fListOf (aCons (eFld 0 5 (eVar 0)) aNil)))
def F_Pane_typed : Fn := runB 1 1 b_Pane_typed
structure PV where
  kept : List (List Nat)
  text : List Nat
  work : Option (Nat × Nat)
  many : Nat
  past : List (List Nat × List Nat)
  notes : List D
def wkD : Option (Nat × Nat) → D
  | none => .non
  | some (a, b) => .tup [.int a, .int b]
def chD (q : List Nat × List Nat) : D := .tup [.str q.1, .str q.2]
def paneD (p : PV) : List D := [.lst (p.kept.map .str), .str p.text, wkD p.work, .int p.many, .lst (p.past.map chD), .lst p.notes]
def lastN {α : Type} (n : Nat) (xs : List α) : List α := xs.drop (xs.length - n)
theorem lastN_len {α : Type} {n : Nat} {xs : List α} : (lastN n xs).length ≤ n := by
  unfold lastN
  rw [List.length_drop]
  omega
theorem lastN_map {α β : Type} {n : Nat} {xs : List α} (f : α → β) : lastN n (xs.map f) = (lastN n xs).map f := by
  unfold lastN
  rw [List.length_map, List.map_drop]
theorem lastN_mem {α : Type} {n : Nat} {xs : List α} {x : α} (h : x ∈ lastN n xs) : x ∈ xs := List.mem_of_mem_drop h
theorem cut_last {α : Type} (n : Nat) (h : 0 < n) (xs : List α) : cutL xs (some (0 - (n : Int))) none = lastN n xs := by
  have e : (0 : Int) - (n : Int) = -(n : Int) := by omega
  rw [e, cut_neg xs n h]
  rfl
def wLine : List Nat := [108, 105, 110, 101]
def wRow : List Nat := [114, 111, 119]
def wClear : List Nat := [99, 108, 101, 97, 114]
/-- rows and line behind a change -/
def ap (rl : List (List Nat) × List Nat) (q : List Nat × List Nat) : List (List Nat) × List Nat := if q.1 = wLine then (rl.1, q.2) else if q.1 = wClear then ([], rl.2) else (lastN 40 (rl.1 ++ [q.2]), rl.2)
def chg (p : PV) (w t : List Nat) : PV := { p with kept := (ap (p.kept, p.text) (w, t)).1, text := (ap (p.kept, p.text) (w, t)).2, many := p.many + 1, past := lastN 30 (p.past ++ [(w, t)]) }
/-- the pane at l -/
def Pn (S : Sto) (l : Nat) (p : PV) : Prop := S.get l = some (.ins 0 (paneD p))
structure Pc (l : Nat) (p : PV) (S S' : Sto) : Prop where
  at_ : Pn S' l p
  nx : S'.next = S.next
  fr : ∀ k, k ≠ l → S'.get k = S.get k
theorem Pc.refl {l : Nat} {p : PV} {S : Sto} (h : Pn S l p) : Pc l p S S := ⟨h, rfl, fun _ _ => rfl⟩
theorem Pc.trans {l : Nat} {p q : PV} {S T U : Sto} (a : Pc l p S T) (b : Pc l q T U) : Pc l q S U := ⟨b.at_, b.nx.trans a.nx, fun k h => (b.fr k h).trans (a.fr k h)⟩
theorem Pc.set {l : Nat} {p : PV} {S : Sto} : Pc l p S (S.set l (.ins 0 (paneD p))) := ⟨if_pos rfl, rfl, fun k h => if_neg h⟩
theorem Pc.box {l a b : Nat} {p : PV} {S S' : Sto} (h : Pc l p S S') (bx : Box S a b) (ha : l ≠ a) (hb : l ≠ b) : Box S' a b := by
  obtain ⟨q, e⟩ := bx.out
  obtain ⟨xs, e2, z⟩ := bx.inn
  exact ⟨bx.ne, ⟨q, (h.fr a (Ne.symm ha)).trans e⟩, ⟨xs, (h.fr b (Ne.symm hb)).trans e2, z⟩, by rw [h.nx]; exact bx.lt⟩
/-- what always holds of a pane -/
structure Pg (p : PV) : Prop where
  k1 : p.kept.length ≤ 40
  k2 : ∀ z ∈ p.kept, z.length ≤ 60 ∧ okS z
  t1 : p.text.length ≤ 30
  t2 : ∀ c ∈ p.text, c < 128
  w1 : ∀ a b, p.work = some (a, b) → a < b ∧ b ≤ 99
  p1 : p.past.length ≤ 30
  n1 : p.notes.length ≤ 100
theorem init_ok {S : Sto} {l : Nat} (h : S.get l = some (.ins 0 [])) : W (F_Pane___init__ [.ref l] S) fun o S' => o = .v .non ∧ Pc l ⟨[], [], none, 0, [], []⟩ S S' := by
  refine w_run rfl ?_
  show WS (b_Pane___init__ [.val (.ref l)] S) _
  unfold b_Pane___init__
  fail "OSTEP"
  refine ⟨l, _, _, rfl, h, rfl, ?_⟩
  fail "OSTEP"
  refine ⟨l, _, _, rfl, if_pos rfl, rfl, ?_⟩
  fail "OSTEP"
  refine ⟨l, _, _, rfl, if_pos rfl, rfl, ?_⟩
  fail "OSTEP"
  refine ⟨l, _, _, rfl, if_pos rfl, rfl, ?_⟩
  fail "OSTEP"
  refine ⟨l, _, _, rfl, if_pos rfl, rfl, ?_⟩
  fail "OSTEP"
  refine ⟨l, _, _, rfl, if_pos rfl, rfl, ?_⟩
  fail "OSTEP"
  refine ⟨rfl, if_pos rfl, rfl, fun k hk => ?_⟩
  exact (if_neg hk).trans ((if_neg hk).trans ((if_neg hk).trans ((if_neg hk).trans ((if_neg hk).trans (if_neg hk)))))
theorem changed_ok {S : Sto} {rows : List (List Nat)} {line w t : List Nat} (hr : rows.length ≤ 1000) : W (F_changed [.lst (rows.map .str), .str line, .tup [.str w, .str t]] S) fun o S' => o = .v (.tup [.lst ((ap (rows, line) (w, t)).1.map .str), .str (ap (rows, line) (w, t)).2]) ∧ S' = S := by
  refine w_run rfl ?_
  show WS (b_changed [.val (.lst (rows.map .str)), .val (.str line), .val (.tup [.str w, .str t]), .no, .no] S) _
  unfold b_changed
  fail "OSTEP"
  unfold ap
  refine ⟨fun z => ?_, fun z => ?_⟩
  · fail "OSTEP"
    rw [if_pos (show w = wLine from of_decide_eq_true z)]
    exact ⟨rfl, rfl⟩
  rw [if_neg (show ¬ w = wLine from of_decide_eq_false z)]
  fail "OSTEP"
  refine ⟨fun z => ?_, fun z => ?_⟩
  · fail "OSTEP"
    rw [if_pos (show w = wClear from of_decide_eq_true z)]
    exact ⟨rfl, rfl⟩
  rw [if_neg (show ¬ w = wClear from of_decide_eq_false z)]
  fail "OSTEP"
  refine wo_cat (by simp; omega) ?_
  fail "OSTEP"
  have e : rows.map D.str ++ [.str t] = (rows ++ [t]).map D.str := by simp
  rw [e, show cutL ((rows ++ [t]).map D.str) (some (0 - 40)) none = lastN 40 ((rows ++ [t]).map D.str) from cut_last 40 (by omega) _, lastN_map]
  exact ⟨rfl, rfl⟩
theorem change_ok {S : Sto} {l : Nat} {p : PV} {w t : List Nat} (h : Pn S l p) (g : Pg p) : W (F_Pane_change [.ref l, .str w, .str t] S) fun o S' => o = .v .non ∧ Pc l (chg p w t) S S' := by
  refine w_run rfl ?_
  show WS (b_Pane_change [.val (.ref l), .val (.str w), .val (.str t)] S) _
  unfold b_Pane_change
  have h1 := g.k1
  have h2 := g.p1
  fail "OSTEP"
  refine ⟨l, _, _, rfl, h, rfl, ?_⟩
  fail "OSTEP"
  refine ⟨l, _, _, rfl, h, rfl, ?_⟩
  fail "OSTEP"
  refine (changed_ok (by omega)).mono fun o S1 e => ?_
  obtain ⟨rfl, rfl⟩ := e
  fail "OSTEP"
  refine ⟨l, _, _, rfl, h, rfl, ?_⟩
  fail "OSTEP"
  refine ⟨l, _, _, rfl, if_pos rfl, rfl, ?_⟩
  fail "OSTEP"
  refine ⟨l, _, _, rfl, if_pos rfl, rfl, ?_⟩
  fail "OSTEP"
  refine ⟨l, _, _, rfl, if_pos rfl, rfl, ?_⟩
  fail "OSTEP"
  refine ⟨l, _, _, rfl, if_pos rfl, rfl, ?_⟩
  fail "OSTEP"
  refine wo_cat (by simp; omega) ?_
  fail "OSTEP"
  have e : p.past.map chD ++ [.tup [.str w, .str t]] = (p.past ++ [(w, t)]).map chD := by simp [chD]
  rw [e, show cutL ((p.past ++ [(w, t)]).map chD) (some (0 - 30)) none = lastN 30 ((p.past ++ [(w, t)]).map chD) from cut_last 30 (by omega) _, lastN_map]
  refine ⟨l, _, _, rfl, if_pos rfl, rfl, ?_⟩
  fail "OSTEP"
  refine ⟨rfl, if_pos rfl, rfl, fun k hk => ?_⟩
  exact (if_neg hk).trans ((if_neg hk).trans ((if_neg hk).trans (if_neg hk)))
theorem ap_len {rl : List (List Nat) × List Nat} {q : List Nat × List Nat} (h : rl.1.length ≤ 40) : (ap rl q).1.length ≤ 40 := by
  unfold ap
  split
  · exact h
  · split
    · exact Nat.zero_le _
    · exact lastN_len
theorem okS_lt {c : List Nat} (h : ∀ x ∈ c, x < 128) : okS c := fun x hx => Nat.lt_trans (h x hx) (by decide)
/-- a change keeps a pane good -/
theorem Pg.ch {p : PV} (g : Pg p) {w t : List Nat} (h1 : t.length ≤ 60 ∧ ∀ c ∈ t, c < 128) (h2 : w = wLine → t.length ≤ 30) : Pg (chg p w t) := by
  refine ⟨ap_len g.k1, fun z hz => ?_, ?_, ?_, g.w1, lastN_len, g.n1⟩
  · have hz : z ∈ (ap (p.kept, p.text) (w, t)).1 := hz
    unfold ap at hz
    split at hz
    · exact g.k2 z hz
    · split at hz
      · cases hz
      · rcases List.mem_append.mp (lastN_mem hz) with q | q
        · exact g.k2 z q
        · rw [List.mem_singleton] at q
          rw [q]
          exact ⟨h1.1, okS_lt h1.2⟩
  · show (ap (p.kept, p.text) (w, t)).2.length ≤ 30
    unfold ap
    split
    · rename_i e
      exact h2 e
    · split <;> exact g.t1
  · show ∀ c ∈ (ap (p.kept, p.text) (w, t)).2, c < 128
    unfold ap
    split
    · exact h1.2
    · split <;> exact g.t2
def wMany : List Nat := [109, 97, 110, 121]
def countV (line : List Nat) : Option Nat := match splitC 32 line with
  | [a, b] => if a = wMany ∧ (1 ≤ b.length ∧ b.length ≤ 2) ∧ (∀ c ∈ b, c ∈ dg) ∧ b.head? ≠ some 48 then some (decV b) else none
  | _ => none
theorem dec2 {b : List Nat} (h : b.length ≤ 2) (d : ∀ c ∈ b, c ∈ dg) : decV b ≤ 99 := by
  match b, h with
  | [], _ => exact Nat.zero_le _
  | [x], _ =>
    have := dg_iff.mp (d x (by simp))
    show 0 * 10 + (x - 48) ≤ 99
    omega
  | [x, y], _ =>
    have h1 := dg_iff.mp (d x (by simp))
    have h2 := dg_iff.mp (d y (by simp))
    show (0 * 10 + (x - 48)) * 10 + (y - 48) ≤ 99
    omega
theorem count_le {line : List Nat} {n : Nat} (h : countV line = some n) : 0 < n ∧ n ≤ 99 := by
  unfold countV at h
  split at h
  · rename_i a b e
    split at h
    · rename_i q
      cases h
      refine ⟨?_, dec2 q.2.1.2 q.2.2.1⟩
      obtain ⟨_, ⟨l1, l2⟩, q3, q4⟩ := q
      match b, l1, l2 with
      | [x], _, _ =>
        have h1 := dg_iff.mp (q3 x (by simp))
        have h3 : x ≠ 48 := fun e => q4 (by simp [e])
        show 0 < 0 * 10 + (x - 48)
        omega
      | [x, y], _, _ =>
        have h1 := dg_iff.mp (q3 x (by simp))
        have h2 := dg_iff.mp (q3 y (by simp))
        have h3 : x ≠ 48 := fun e => q4 (by simp [e])
        show 0 < (0 * 10 + (x - 48)) * 10 + (y - 48)
        omega
    · cases h
  · cases h
theorem count_ok {S : Sto} {line : List Nat} (hl : line.length ≤ 1000) (ho : okS line) : W (F_count_of [.str line] S) fun o S' => o = .v (numD (countV line)) ∧ S' = S := by
  refine w_run rfl ?_
  show WS (b_count_of [.val (.str line), .no, .no] S) _
  unfold b_count_of
  fail "OSTEP"
  refine wo_split ⟨by decide, by omega⟩ ?_
  fail "OSTEP"
  have hmem := @split_mem 32
  have hlen := @split_len 32
  have two : (splitC 32 line).length = 2 → ∃ a b, splitC 32 line = [a, b] := fun h => by
    match splitC 32 line, h with
    | [a, b], _ => exact ⟨a, b, rfl⟩
  refine ⟨fun z => ?_, fun z => ?_⟩
  · refine ⟨fun _ => ?_, fun q => nomatch q⟩
    fail "OSTEP"
    have z : (splitC 32 line).length ≠ 2 := fun q => by
      rw [List.length_map, q] at z
      cases z
    have e : countV line = none := by
      unfold countV
      split
      · rename_i a b e
        rw [e] at z
        exact absurd rfl z
      · rfl
    rw [e]
    exact ⟨rfl, rfl⟩
  have z1 : (splitC 32 line).length = 2 := by
    rw [List.length_map] at z
    simp at z
    omega
  obtain ⟨a, b, e⟩ := two z1
  have la := hlen (z := line) (p := a) (by rw [e]; simp)
  have lb := hlen (z := line) (p := b) (by rw [e]; simp)
  have ob : okS b := fun x hx => ho x (hmem (z := line) (p := b) (by rw [e]; simp) hx)
  have bad : ∀ {S1 : Sto}, S1 = S → ¬ (a = wMany ∧ (1 ≤ b.length ∧ b.length ≤ 2) ∧ (∀ c ∈ b, c ∈ dg) ∧ b.head? ≠ some 48) → Out.v .non = .v (numD (countV line)) ∧ S1 = S := fun h q => by
    unfold countV
    rw [e]
    dsimp only
    rw [if_neg q]
    exact ⟨rfl, h⟩
  rw [e]
  fail "OSTEP"
  refine wo_ixL (d := .str a) (by decide) rfl ?_
  fail "OSTEP"
  refine ⟨fun z => ?_, fun z => ?_⟩
  · refine ⟨fun _ => ?_, fun q => nomatch q⟩
    fail "OSTEP"
    refine bad rfl fun q => ?_
    rw [show a = [109, 97, 110, 121] from q.1] at z
    cases z
  have z2 : a = wMany := by
    by_cases q : a = wMany
    · exact q
    · rw [decide_eq_false (show ¬ a = [109, 97, 110, 121] from q)] at z
      cases z
  fail "OSTEP"
  refine wo_ixL (d := .str b) (by decide) rfl ?_
  fail "OSTEP"
  refine wo_len (by omega) ?_
  fail "OSTEP"
  refine ⟨fun z => ?_, fun z => ?_⟩
  · have z := of_decide_eq_false z
    fail "OSTEP"
    refine ⟨fun _ => ?_, fun q => nomatch q⟩
    fail "OSTEP"
    exact bad rfl fun q => z (by omega)
  have z3 := of_decide_eq_true z
  fail "OSTEP"
  refine ⟨fun z => ?_, fun z => ?_⟩
  · have z : decide ((b.length : Int) ≤ 2) = false := by simpa using z
    have z := of_decide_eq_false z
    fail "OSTEP"
    exact bad rfl fun q => z (by omega)
  have z4 : decide ((b.length : Int) ≤ 2) = true := by simpa using z
  have z4 := of_decide_eq_true z4
  fail "OSTEP"
  refine wl_signs (A := dg) (fun c => rfl) (fun c => rfl) ?_
  fail "OSTEP"
  refine wo_ixL (d := .str b) (by decide) rfl ?_
  fail "OSTEP"
  refine ⟨by omega, fun c => ?_, ?_⟩
  · fail "OSTEP"
    exact ⟨rfl, rfl⟩
  fail "OSTEP"
  refine wo_neNil (okS_filter ob) ?_
  rw [filt_empty]
  fail "OSTEP"
  refine ⟨fun z => ?_, fun z => ?_⟩
  · refine ⟨fun _ => ?_, fun q => nomatch q⟩
    fail "OSTEP"
    refine bad rfl fun q => ?_
    rw [decide_eq_true q.2.2.1] at z
    cases z
  have z5 : ∀ c ∈ b, c ∈ dg := by
    by_cases q : ∀ c ∈ b, c ∈ dg
    · exact q
    · rw [decide_eq_false q] at z
      cases z
  cases b with
  | nil => simp at z3
  | cons x b =>
    fail "OSTEP"
    refine wo_ixL (d := .str (x :: b)) (by decide) rfl ?_
    fail "OSTEP"
    refine wo_ixS (c := x) (by omega) (by decide) rfl ?_
    fail "OSTEP"
    refine ⟨fun z => ?_, fun z => ?_⟩
    · fail "OSTEP"
      refine bad rfl fun q => q.2.2.2 ?_
      have := of_decide_eq_true z
      simp at this
      simp [this]
    fail "OSTEP"
    refine wo_ixL (d := .str (x :: b)) (by decide) rfl ?_
    fail "OSTEP"
    refine wo_intS ⟨?_, by simp, by omega⟩ ?_
    · unfold allDig
      rw [List.all_eq_true]
      exact fun c hc => decide_eq_true (dg_iff.mp (z5 c hc))
    · fail "OSTEP"
      unfold countV
      rw [e]
      dsimp only
      have hd : (x :: b).head? ≠ some 48 := by
        have := of_decide_eq_false z
        simpa using this
      rw [if_pos ⟨z2, ⟨by omega, by omega⟩, z5, hd⟩]
      exact ⟨rfl, rfl⟩
def say4 : List Nat := [115, 97, 121, 32]
def wStop : List Nat := [115, 116, 111, 112]
def doV (p : PV) (line : List Nat) : PV :=
  let p1 := chg p wRow ([62, 32] ++ line)
  let p2 := if line = [] then p1 else chg p1 wLine []
  if line.take 4 = say4 then chg p2 wRow (line.drop 4) else if line = wClear then chg p2 wClear [] else if line = wStop ∧ p2.work ≠ none then { p2 with work := none } else match countV line with
  | some n => { p2 with work := some (0, n) }
  | none => if line = [] then p2 else chg p2 wRow ([63, 32] ++ line)
def ptV (p1 : PV) (c : Nat) : PV := if c = 59 then doV p1 p1.text else if c = 60 then (if p1.text = [] then p1 else chg p1 wLine (p1.text.take (p1.text.length - 1))) else if p1.text.length < 30 then chg p1 wLine (p1.text ++ [c]) else p1
def pressV (p : PV) (nt : D) (c : Nat) : PV := ptV { p with notes := lastN 100 (p.notes ++ [nt]) } c
def b_press_tail : EvS := (sIf (tOf (e2 fEq (eVar 3) (eC (.str [59])))) (sDo (eMt 0 F_Pane_do (eVar 0) (aCons (eFld 0 1 (eVar 0)) aNil))) (sIf (tOf (e2 fEq (eVar 3) (eC (.str [60])))) (sIf (tOf (e2 fNe (eFld 0 1 (eVar 0)) (eC (.str [])))) (sDo (eMt 0 F_Pane_change (eVar 0) (aCons (eC (.str [108, 105, 110, 101])) (aCons (e3 fSl (eFld 0 1 (eVar 0)) oNone (oSome (e1 fNeg (eC (.int 1))))) aNil)))) sNext) (sIf (tOf (e2 fLt (eN fLen (aCons (eFld 0 1 (eVar 0)) aNil)) (eC (.int 30)))) (sDo (eMt 0 F_Pane_change (eVar 0) (aCons (eC (.str [108, 105, 110, 101])) (aCons (e2 fAdd (eFld 0 1 (eVar 0)) (eVar 3)) aNil)))) sNext)))
theorem bd {p : Prop} [Decidable p] (h : (!decide p) = false) : p := by
  by_cases q : p
  · exact q
  · rw [decide_eq_false q] at h
    cases h
theorem bt {p : Prop} [Decidable p] (h : (!decide p) = true) : ¬ p := fun q => by
  rw [decide_eq_true q] at h
  cases h
theorem lt_app {x y : List Nat} (hx : ∀ c ∈ x, c < 128) (hy : ∀ c ∈ y, c < 128) : ∀ c ∈ x ++ y, c < 128 := fun c hc => by
  rcases List.mem_append.mp hc with h | h
  · exact hx c h
  · exact hy c h
theorem isNon_wk {w : Option (Nat × Nat)} : isNon (wkD w) = some (decide (w = none)) := by
  cases w with
  | none => rfl
  | some q => rfl
theorem isNon_num {w : Option Nat} : isNon (numD w) = some (decide (w = none)) := by
  cases w with
  | none => rfl
  | some q => rfl
theorem Pg.chgRow {p : PV} (g : Pg p) {t : List Nat} (h1 : t.length ≤ 60 ∧ ∀ c ∈ t, c < 128) : Pg (chg p wRow t) := g.ch h1 fun e => absurd e (by decide)
theorem do_ok {S : Sto} {l : Nat} {p : PV} {line : List Nat} (h : Pn S l p) (g : Pg p) (hl : line.length ≤ 30) (ho : ∀ c ∈ line, c < 128) : W (F_Pane_do [.ref l, .str line] S) fun o S' => o = .v .non ∧ Pc l (doV p line) S S' ∧ Pg (doV p line) := by
  refine w_run rfl ?_
  show WS (b_Pane_do [.val (.ref l), .val (.str line)] S) _
  unfold b_Pane_do doV
  have g1 : Pg (chg p wRow ([62, 32] ++ line)) := g.chgRow ⟨by simp; omega, lt_app (by decide) ho⟩
  fail "OSTEP"
  refine ⟨l, _, rfl, h, ?_⟩
  fail "OSTEP"
  refine wo_addS (by simp; omega) ?_
  fail "OSTEP"
  refine (change_ok h g).mono fun o S1 e => ?_
  obtain ⟨rfl, c1⟩ := e
  dsimp only
  generalize hp1 : chg p wRow ([62, 32] ++ line) = p1 at g1 c1 ⊢
  have c1 : Pc l p1 S S1 := by rw [← hp1]; exact c1
  refine nxt_nx (ws_seq (WS.mono (Q := fun f ρ S2 => f = .nx ∧ ρ = [.val (.ref l), .val (.str line)] ∧ Pc l (if line = [] then p1 else chg p1 wLine []) S S2 ∧ Pg (if line = [] then p1 else chg p1 wLine [])) ?_ ?_))
  · fail "OSTEP"
    refine ⟨fun z => ?_, fun z => ?_⟩
    · have z : ¬ line = [] := fun q => by rw [decide_eq_true q] at z; cases z
      fail "OSTEP"
      refine ⟨l, _, rfl, c1.at_, ?_⟩
      fail "OSTEP"
      refine (change_ok c1.at_ g1).mono fun o S2 e => ?_
      obtain ⟨rfl, c2⟩ := e
      rw [if_neg z]
      exact ⟨rfl, rfl, c1.trans c2, g1.ch ⟨by simp, fun c hc => (nomatch hc)⟩ fun _ => by simp⟩
    · have z : line = [] := by
        by_cases q : line = []
        · exact q
        · rw [decide_eq_false q] at z; cases z
      fail "OSTEP"
      rw [if_pos z]
      exact ⟨rfl, rfl, c1, g1⟩
  · rintro f ρ S2 ⟨rfl, rfl, c2, g2⟩
    generalize hp2 : (if line = [] then p1 else chg p1 wLine []) = p2 at c2 g2 ⊢
    have row : ∀ {t : List Nat} {Q : PS}, t.length ≤ 60 → (∀ c ∈ t, c < 128) → (∀ S3, Pc l (chg p2 wRow t) S S3 → Pg (chg p2 wRow t) → Q .nx [.val (.ref l), .val (.str line)] S3) → ∀ {ea : Ev}, (∀ P, P (.str t) S2 → W (ea [.val (.ref l), .val (.str line)] S2) P) → WS (sDo (eMt 0 F_Pane_change (eVar 0) (aCons (eC (.str [114, 111, 119])) (aCons ea aNil))) [.val (.ref l), .val (.str line)] S2) Q := fun {t Q} h1 h2 k {ea} he => by
      fail "OSTEP"
      refine ⟨l, _, rfl, c2.at_, ?_⟩
      fail "OSTEP"
      refine he _ ?_
      fail "OSTEP"
      refine (change_ok c2.at_ g2).mono fun o S3 e => ?_
      obtain ⟨rfl, c3⟩ := e
      exact k S3 (c2.trans c3) (g2.chgRow ⟨h1, h2⟩)
    fail "OSTEP"
    refine wo_slS (by omega) ?_
    rw [show cutL line none (some 4) = line.take 4 from cut_lo line 4]
    fail "OSTEP"
    refine ⟨fun z => ?_, fun z => ?_⟩
    · rw [if_pos (show line.take 4 = say4 from of_decide_eq_true z)]
      refine row (t := line.drop 4) (by simp; omega) (fun c hc => ho c (List.mem_of_mem_drop hc)) (fun S3 c3 g3 => ⟨rfl, c3, g3⟩) fun P hP => ?_
      fail "OSTEP"
      refine wo_slS (by omega) ?_
      rw [show cutL line (some 4) none = line.drop 4 from cut_hi line 4]
      exact hP
    rw [if_neg (show ¬ line.take 4 = say4 from of_decide_eq_false z)]
    fail "OSTEP"
    refine ⟨fun z => ?_, fun z => ?_⟩
    · rw [if_pos (show line = wClear from of_decide_eq_true z)]
      fail "OSTEP"
      refine ⟨l, _, rfl, c2.at_, ?_⟩
      fail "OSTEP"
      refine (change_ok c2.at_ g2).mono fun o S3 e => ?_
      obtain ⟨rfl, c3⟩ := e
      exact ⟨rfl, c2.trans c3, g2.ch ⟨by simp, fun c hc => (nomatch hc)⟩ fun e => absurd e (by decide)⟩
    rw [if_neg (show ¬ line = wClear from of_decide_eq_false z)]
    have count : WS ((sIf (tOf (eNotN (eN (callE F_count_of) (aCons (eVar 1) aNil)))) (sPutF 0 2 (eVar 0) (eTup (aCons (eC (.int 0)) (aCons (eN (callE F_count_of) (aCons (eVar 1) aNil)) aNil)))) (sIf (tOf (e2 fNe (eVar 1) (eC (.str [])))) (sDo (eMt 0 F_Pane_change (eVar 0) (aCons (eC (.str [114, 111, 119])) (aCons (e2 fAdd (eC (.str [63, 32])) (eVar 1)) aNil)))) sNext)) [Sl.val (.ref l), .val (.str line)] S2) (endP fun o S' => o = .v .non ∧ Pc l (match countV line with
        | some n => { p2 with work := some (0, n) }
        | none => if line = [] then p2 else chg p2 wRow ([63, 32] ++ line)) S S' ∧ Pg (match countV line with
        | some n => { p2 with work := some (0, n) }
        | none => if line = [] then p2 else chg p2 wRow ([63, 32] ++ line))) := by
      fail "OSTEP"
      refine (count_ok (by omega) (okS_lt ho)).mono fun o S3 e => ?_
      obtain ⟨rfl, rfl⟩ := e
      refine ⟨_, isNon_num, ?_⟩
      cases hn : countV line with
      | some n =>
        fail "OSTEP"
        refine ⟨fun _ => ?_, fun z => nomatch z⟩
        fail "OSTEP"
        refine (count_ok (by omega) (okS_lt ho)).mono fun o S4 e => ?_
        obtain ⟨rfl, rfl⟩ := e
        rw [hn]
        fail "OSTEP"
        refine ⟨l, _, _, rfl, c2.at_, rfl, ?_⟩
        fail "OSTEP"
        have hle := count_le hn
        have pc : Pc l { p2 with work := some (0, n) } S4 (S4.set l (.ins 0 (paneD { p2 with work := some (0, n) }))) := Pc.set
        exact ⟨rfl, c2.trans pc, g2.k1, g2.k2, g2.t1, g2.t2, fun a b e => by cases e; omega, g2.p1, g2.n1⟩
      | none =>
        fail "OSTEP"
        refine ⟨fun z => (nomatch z), fun _ => ?_⟩
        fail "OSTEP"
        refine ⟨fun z => ?_, fun z => ?_⟩
        · have z : ¬ line = [] := fun q => by rw [decide_eq_true q] at z; cases z
          rw [if_neg z]
          refine row (t := [63, 32] ++ line) (by simp; omega) (lt_app (by decide) ho) (fun S3 c3 g3 => ⟨rfl, c3, g3⟩) fun P hP => ?_
          fail "OSTEP"
          refine wo_addS (by simp; omega) ?_
          exact hP
        · have z : line = [] := by
            by_cases q : line = []
            · exact q
            · rw [decide_eq_false q] at z; cases z
          fail "OSTEP"
          rw [if_pos z]
          exact ⟨rfl, c2, g2⟩
    fail "OSTEP"
    refine ⟨fun z => ?_, fun z => ?_⟩
    · rw [if_neg (fun q => of_decide_eq_false z q.1)]
      exact ⟨fun q => (nomatch q), fun _ => count⟩
    · have z : line = wStop := of_decide_eq_true z
      fail "OSTEP"
      refine ⟨l, _, _, rfl, c2.at_, rfl, ?_⟩
      refine ⟨_, isNon_wk, ?_⟩
      fail "OSTEP"
      refine ⟨fun q => ?_, fun q => ?_⟩
      · have q : p2.work ≠ none := fun e => by rw [decide_eq_true e] at q; cases q
        rw [if_pos ⟨z, q⟩]
        fail "OSTEP"
        refine ⟨l, _, _, rfl, c2.at_, rfl, ?_⟩
        fail "OSTEP"
        have pc : Pc l { p2 with work := none } S2 (S2.set l (.ins 0 (paneD { p2 with work := none }))) := Pc.set
        exact ⟨rfl, c2.trans pc, g2.k1, g2.k2, g2.t1, g2.t2, fun a b e => (by cases e), g2.p1, g2.n1⟩
      · have q : p2.work = none := by
          by_cases e : p2.work = none
          · exact e
          · rw [decide_eq_false e] at q; cases q
        rw [if_neg (fun e => e.2 q)]
        exact count
def an : List Nat := [97, 98, 99, 100, 101, 102, 103, 104, 105, 106, 107, 108, 109, 110, 111, 112, 113, 114, 115, 116, 117, 118, 119, 120, 121, 122, 48, 49, 50, 51, 52, 53, 54, 55, 56, 57, 32, 60, 59]
theorem an_lt : ∀ c ∈ an, c < 128 := by decide
theorem enumS_get {z : List Nat} {k : Nat} {d : D} (h : (enumS z)[k]? = some d) : ∃ c, z[k]? = some c ∧ d = .tup [.int k, .str [c]] := by
  unfold enumS at h
  obtain ⟨j, hj, rfl⟩ := map_get h
  have l : k < z.length := by
    have := (List.getElem?_eq_some_iff.mp hj).1
    simpa using this
  rw [List.getElem?_range l] at hj
  cases hj
  refine ⟨z[k], List.getElem?_eq_getElem l, ?_⟩
  rw [List.getD_eq_getElem?_getD, List.getElem?_eq_getElem l]
  rfl
theorem need_ok {S : Sto} {z : List Nat} (hz : ∀ c ∈ z, c ∈ an) : W (F_need_signs [.str z] S) fun o S' => o = .v .non ∧ S' = S := by
  refine w_run rfl ?_
  show WS (b_need_signs [.val (.str z), .no, .no] S) _
  unfold b_need_signs
  fail "OSTEP"
  refine ws_loop (fun k ρ S1 => S1 = S ∧ ∃ x y : Sl, ρ = [.val (.str z), x, y]) ⟨rfl, _, _, rfl⟩ ?_ ?_
  · rintro k d ρ S1 hk ⟨rfl, x, y, rfl⟩
    obtain ⟨c, hc, rfl⟩ := enumS_get hk
    fail "OSTEP"
    refine wo_addS (by decide) ?_
    fail "OSTEP"
    refine wo_addS (by decide) ?_
    fail "OSTEP"
    refine wo_addS (by decide) ?_
    fail "OSTEP"
    refine wo_addS (by decide) ?_
    fail "OSTEP"
    refine ⟨fun q => ?_, fun q => ?_⟩
    · exact absurd (hz c (List.mem_of_getElem? hc)) (bt q)
    · fail "OSTEP"
      exact ⟨rfl, _, _, rfl⟩
  · rintro ρ S1 ⟨rfl, x, y, rfl⟩
    exact ⟨rfl, rfl⟩
theorem press_tail {S1 S2 : Sto} {l c : Nat} {p1 : PV} {a b : D} (pc : Pc l p1 S1 S2) (g1 : Pg p1) (hc : c ∈ an) : WS (b_press_tail [.val (.ref l), .val a, .val b, .val (.str [c])] S2) (endP fun o S' => o = .v .non ∧ Pc l (ptV p1 c) S1 S' ∧ Pg (ptV p1 c)) := by
  unfold b_press_tail ptV
  have t1 := g1.t1
  fail "OSTEP"
  refine ⟨fun z => ?_, fun z => ?_⟩
  · have z : c = 59 := by simpa using z
    rw [if_pos z]
    fail "OSTEP"
    refine ⟨l, _, rfl, pc.at_, ?_⟩
    fail "OSTEP"
    refine ⟨l, _, _, rfl, pc.at_, rfl, ?_⟩
    fail "OSTEP"
    refine (do_ok pc.at_ g1 g1.t1 g1.t2).mono fun o S3 e => ?_
    obtain ⟨rfl, c3, g3⟩ := e
    exact ⟨rfl, pc.trans c3, g3⟩
  have z : ¬ c = 59 := by simpa using z
  rw [if_neg z]
  fail "OSTEP"
  refine ⟨fun z => ?_, fun z => ?_⟩
  · have z : c = 60 := by simpa using z
    rw [if_pos z]
    fail "OSTEP"
    refine ⟨l, _, _, rfl, pc.at_, rfl, ?_⟩
    fail "OSTEP"
    refine ⟨fun z => ?_, fun z => ?_⟩
    · have z : ¬ p1.text = [] := fun q => by rw [decide_eq_true q] at z; cases z
      rw [if_neg z]
      fail "OSTEP"
      refine ⟨l, _, rfl, pc.at_, ?_⟩
      fail "OSTEP"
      refine ⟨l, _, _, rfl, pc.at_, rfl, ?_⟩
      fail "OSTEP"
      refine wo_slS (by omega) ?_
      rw [show cutL p1.text none (some (-1)) = p1.text.take (p1.text.length - 1) from cut_upto1 _]
      fail "OSTEP"
      refine (change_ok pc.at_ g1).mono fun o S3 e => ?_
      obtain ⟨rfl, c3⟩ := e
      exact ⟨rfl, pc.trans c3, g1.ch ⟨by simp; omega, fun x hx => g1.t2 x (List.mem_of_mem_take hx)⟩ fun _ => by simp; omega⟩
    · have z : p1.text = [] := by
        by_cases q : p1.text = []
        · exact q
        · rw [decide_eq_false q] at z; cases z
      rw [if_pos z]
      fail "OSTEP"
      exact ⟨rfl, pc, g1⟩
  have z : ¬ c = 60 := by simpa using z
  rw [if_neg z]
  fail "OSTEP"
  refine ⟨l, _, _, rfl, pc.at_, rfl, ?_⟩
  fail "OSTEP"
  refine wo_len (by omega) ?_
  fail "OSTEP"
  refine ⟨fun z => ?_, fun z => ?_⟩
  · have z := of_decide_eq_true z
    rw [if_pos (by omega)]
    fail "OSTEP"
    refine ⟨l, _, rfl, pc.at_, ?_⟩
    fail "OSTEP"
    refine ⟨l, _, _, rfl, pc.at_, rfl, ?_⟩
    fail "OSTEP"
    refine wo_addS (by simp; omega) ?_
    fail "OSTEP"
    refine (change_ok pc.at_ g1).mono fun o S3 e => ?_
    obtain ⟨rfl, c3⟩ := e
    exact ⟨rfl, pc.trans c3, g1.ch ⟨by simp; omega, lt_app g1.t2 fun x hx => by rw [List.mem_singleton.mp hx]; exact an_lt c hc⟩ fun _ => by simp; omega⟩
  · have z := of_decide_eq_false z
    rw [if_neg (by omega)]
    fail "OSTEP"
    exact ⟨rfl, pc, g1⟩
theorem press_ok {S : Sto} {l c : Nat} {p : PV} {a b : D} (h : Pn S l p) (g : Pg p) (hc : c ∈ an) : W (F_Pane_press [.ref l, a, b, .str [c]] S) fun o S' => o = .v .non ∧ Pc l (pressV p (.tup [a, b, .str [c]]) c) S S' ∧ Pg (pressV p (.tup [a, b, .str [c]]) c) := by
  refine w_run rfl ?_
  show WS (b_Pane_press [.val (.ref l), .val a, .val b, .val (.str [c])] S) _
  unfold b_Pane_press
  have n1 := g.n1
  fail "OSTEP"
  refine (need_ok fun x hx => by rw [List.mem_singleton.mp hx]; exact hc).mono fun o S1 e => ?_
  obtain ⟨rfl, rfl⟩ := e
  fail "OSTEP"
  refine ⟨l, _, _, rfl, h, rfl, ?_⟩
  fail "OSTEP"
  refine wo_cat (by simp; omega) ?_
  fail "OSTEP"
  rw [show cutL (p.notes ++ [D.tup [a, b, .str [c]]]) (some (0 - 100)) none = lastN 100 (p.notes ++ [D.tup [a, b, .str [c]]]) from cut_last 100 (by omega) _]
  refine ⟨l, _, _, rfl, h, rfl, ?_⟩
  have g1 : Pg { p with notes := lastN 100 (p.notes ++ [D.tup [a, b, .str [c]]]) } := ⟨g.k1, g.k2, g.t1, g.t2, g.w1, g.p1, lastN_len⟩
  refine nxt_nx ?_
  exact press_tail (p1 := { p with notes := lastN 100 (p.notes ++ [D.tup [a, b, .str [c]]]) }) Pc.set g1 hc
theorem rows_ok {S : Sto} {l : Nat} {p : PV} (h : Pn S l p) : W (F_Pane_rows [.ref l] S) fun o S' => o = .f (p.kept.map .str) ∧ S' = S := by
  refine w_run rfl ?_
  show WS (b_Pane_rows [.val (.ref l)] S) _
  unfold b_Pane_rows
  fail "OSTEP"
  refine ⟨l, _, _, rfl, h, rfl, ?_⟩
  fail "OSTEP"
  exact ⟨rfl, rfl⟩
theorem typed_ok {S : Sto} {l : Nat} {p : PV} (h : Pn S l p) : W (F_Pane_typed [.ref l] S) fun o S' => o = .f p.notes ∧ S' = S := by
  refine w_run rfl ?_
  show WS (b_Pane_typed [.val (.ref l)] S) _
  unfold b_Pane_typed
  fail "OSTEP"
  refine ⟨l, _, _, rfl, h, rfl, ?_⟩
  fail "OSTEP"
  exact ⟨rfl, rfl⟩
theorem line_ok {S : Sto} {l : Nat} {p : PV} (h : Pn S l p) : W (F_Pane_line [.ref l] S) fun o S' => o = .v (.str p.text) ∧ S' = S := by
  refine w_run rfl ?_
  show WS (b_Pane_line [.val (.ref l)] S) _
  unfold b_Pane_line
  fail "OSTEP"
  refine ⟨l, _, _, rfl, h, rfl, ?_⟩
  fail "OSTEP"
  exact ⟨rfl, rfl⟩
theorem changes_ok {S : Sto} {l : Nat} {p : PV} (h : Pn S l p) : W (F_Pane_changes [.ref l] S) fun o S' => o = .v (.int p.many) ∧ S' = S := by
  refine w_run rfl ?_
  show WS (b_Pane_changes [.val (.ref l)] S) _
  unfold b_Pane_changes
  fail "OSTEP"
  refine ⟨l, _, _, rfl, h, rfl, ?_⟩
  fail "OSTEP"
  exact ⟨rfl, rfl⟩
theorem lastN_all {α : Type} {n : Nat} {xs : List α} (h : xs.length ≤ n) : lastN n xs = xs := by
  unfold lastN
  rw [Nat.sub_eq_zero_of_le h]
  rfl
theorem lastN_snoc {α : Type} {n : Nat} {xs : List α} {x : α} (h0 : 0 < n) : lastN n (lastN n xs ++ [x]) = lastN n (xs ++ [x]) := by
  unfold lastN
  by_cases h : xs.length ≤ n
  · rw [Nat.sub_eq_zero_of_le h]
    rfl
  · have e : (xs.drop (xs.length - n) ++ [x]).length = n + 1 := by
      simp
      omega
    have e2 : (xs ++ [x]).length - n = xs.length + 1 - n := by simp
    rw [e, e2, List.drop_append_of_le_length (by simp; omega), List.drop_drop, List.drop_append_of_le_length (by omega)]
    congr 2
    omega
/-- from p0 the changes cs lead to p -/
structure Led (p0 p : PV) (cs : List (List Nat × List Nat)) : Prop where
  many : p.many = p0.many + cs.length
  now : (p.kept, p.text) = cs.foldl ap (p0.kept, p0.text)
  past : p.past = lastN 30 (p0.past ++ cs)
def Rd (p0 p : PV) : Prop := ∃ cs, Led p0 p cs
theorem Rd.refl {p : PV} (h : p.past.length ≤ 30) : Rd p p := ⟨[], rfl, rfl, by rw [List.append_nil, lastN_all h]⟩
theorem Rd.ch {p0 p : PV} {w t : List Nat} (h : Rd p0 p) : Rd p0 (chg p w t) := by
  obtain ⟨cs, h1, h2, h3⟩ := h
  refine ⟨cs ++ [(w, t)], ?_, ?_, ?_⟩
  · show p.many + 1 = _
    rw [h1, List.length_append]
    rfl
  · show ((ap (p.kept, p.text) (w, t)).1, (ap (p.kept, p.text) (w, t)).2) = _
    rw [List.foldl_append, ← h2]
    rfl
  · show lastN 30 (p.past ++ [(w, t)]) = _
    rw [h3, lastN_snoc (by omega), List.append_assoc]
theorem Rd.wk {p0 p : PV} {w : Option (Nat × Nat)} (h : Rd p0 p) : Rd p0 { p with work := w } := let ⟨cs, a, b, c⟩ := h; ⟨cs, a, b, c⟩
theorem Rd.nt {p0 p : PV} {w : List D} (h : Rd p0 p) : Rd p0 { p with notes := w } := let ⟨cs, a, b, c⟩ := h; ⟨cs, a, b, c⟩
theorem Rd.do {p0 p : PV} {line : List Nat} (h : Rd p0 p) : Rd p0 (doV p line) := by
  unfold doV
  have h1 : Rd p0 (if line = [] then chg p wRow ([62, 32] ++ line) else chg (chg p wRow ([62, 32] ++ line)) wLine []) := by
    split
    · exact h.ch
    · exact h.ch.ch
  dsimp only
  generalize (if line = [] then chg p wRow ([62, 32] ++ line) else chg (chg p wRow ([62, 32] ++ line)) wLine []) = p2 at h1 ⊢
  split
  · exact h1.ch
  · split
    · exact h1.ch
    · split
      · exact h1.wk
      · split
        · exact h1.wk
        · split
          · exact h1
          · exact h1.ch
theorem Rd.press {p0 p : PV} {n : D} {c : Nat} (h : Rd p0 p) : Rd p0 (pressV p n c) := by
  unfold pressV ptV
  split
  · exact Rd.do (Rd.nt h)
  · split
    · split
      · exact h.nt
      · exact h.nt.ch
    · split
      · exact h.nt.ch
      · exact h.nt
end AH
set_option maxRecDepth 100000
set_option maxHeartbeats 4000000
namespace AH
open PySem L2 TL
abbrev Hm := List (Nat × MO)
structure Hs (S : Sto) (A : Hm) : Prop where
  nd : (A.map (·.1)).Nodup
  at_ : ∀ p ∈ A, S.get p.1 = some p.2
  lt : ∀ p ∈ A, p.1 < S.next
inductive Ud : Hm → Nat → MO → MO → Hm → Prop
  | hd {l o o' A} : Ud ((l, o) :: A) l o o' ((l, o') :: A)
  | tl {p A l o o' A'} : Ud A l o o' A' → Ud (p :: A) l o o' (p :: A')
  | lf {A B l o o' A'} : Ud A l o o' A' → Ud (A ++ B) l o o' (A' ++ B)
  | rt {A B l o o' B'} : Ud B l o o' B' → Ud (A ++ B) l o o' (A ++ B')
theorem Ud.out {A A' : Hm} {l : Nat} {o o' : MO} (u : Ud A l o o' A') : ∃ X Y, A = X ++ (l, o) :: Y ∧ A' = X ++ (l, o') :: Y := by
  induction u with
  | hd => exact ⟨[], _, rfl, rfl⟩
  | @tl p A l o o' A' u ih =>
    obtain ⟨X, Y, rfl, rfl⟩ := ih
    exact ⟨p :: X, Y, rfl, rfl⟩
  | @lf A B l o o' A' u ih =>
    obtain ⟨X, Y, rfl, rfl⟩ := ih
    exact ⟨X, Y ++ B, by simp, by simp⟩
  | @rt A B l o o' B' u ih =>
    obtain ⟨X, Y, rfl, rfl⟩ := ih
    exact ⟨A ++ X, Y, by simp, by simp⟩
theorem Ud.mem {A A' : Hm} {l : Nat} {o o' : MO} (u : Ud A l o o' A') : (l, o) ∈ A := by
  obtain ⟨X, Y, rfl, rfl⟩ := u.out
  simp
theorem Hs.get {S : Sto} {A : Hm} {l : Nat} {o : MO} (h : Hs S A) (m : (l, o) ∈ A) : S.get l = some o := h.at_ _ m
theorem Hs.nil {S : Sto} : Hs S [] := ⟨.nil, nofun, nofun⟩
theorem Hs.perm {S : Sto} {A B : Hm} (h : Hs S A) (p : A.Perm B) : Hs S B := ⟨(p.map _).nodup_iff.mp h.nd, fun q hq => h.at_ q (p.mem_iff.mpr hq), fun q hq => h.lt q (p.mem_iff.mpr hq)⟩
theorem Hs.cut {S : Sto} {A B : Hm} (h : Hs S A) (p : List.Sublist B A) : Hs S B := ⟨h.nd.sublist (p.map _), fun q hq => h.at_ q (p.subset hq), fun q hq => h.lt q (p.subset hq)⟩
theorem Hs.tail {S : Sto} {p : Nat × MO} {A : Hm} (h : Hs S (p :: A)) : Hs S A := h.cut (List.sublist_cons_self _ _)
theorem Hs.fr1 {S S' : Sto} {X Y : Hm} {l : Nat} {o o' : MO} (h : Hs S (X ++ (l, o) :: Y)) (n : S.next ≤ S'.next) (g : S'.get l = some o') (f : ∀ k, k ≠ l → k < S.next → S'.get k = S.get k) : Hs S' (X ++ (l, o') :: Y) := by
  have nd := h.nd
  rw [List.map_append, List.map_cons] at nd
  have nl : l ∉ X.map (·.1) ∧ l ∉ Y.map (·.1) := by
    have q := (List.nodup_append.mp nd)
    exact ⟨fun z => q.2.2 l z l (List.mem_cons_self ..) rfl, (List.nodup_cons.mp q.2.1).1⟩
  refine ⟨by rw [List.map_append, List.map_cons]; exact nd, fun p hp => ?_, fun p hp => ?_⟩
  · rcases List.mem_append.mp hp with z | z
    · rw [f p.1 (fun e => nl.1 (by rw [← e]; exact List.mem_map_of_mem z)) (h.lt p (List.mem_append_left _ z))]
      exact h.at_ p (List.mem_append_left _ z)
    · rcases List.mem_cons.mp z with z | z
      · rw [z]
        exact g
      · have m : p ∈ X ++ (l, o) :: Y := List.mem_append_right _ (List.mem_cons_of_mem _ z)
        rw [f p.1 (fun e => nl.2 (by rw [← e]; exact List.mem_map_of_mem z)) (h.lt p m)]
        exact h.at_ p m
  · have e : ∀ q ∈ X ++ (l, o) :: Y, q.1 < S'.next := fun q hq => Nat.lt_of_lt_of_le (h.lt q hq) n
    rcases List.mem_append.mp hp with z | z
    · exact e p (List.mem_append_left _ z)
    · rcases List.mem_cons.mp z with z | z
      · rw [z]
        exact e (l, o) (List.mem_append_right _ (List.mem_cons_self ..))
      · exact e p (List.mem_append_right _ (List.mem_cons_of_mem _ z))
theorem Hs.upd {S : Sto} {A A' : Hm} {l : Nat} {o o' : MO} (h : Hs S A) (u : Ud A l o o' A') : Hs (S.set l o') A' := by
  obtain ⟨X, Y, rfl, rfl⟩ := u.out
  exact h.fr1 (Nat.le_refl _) (if_pos rfl) fun k hk _ => if_neg hk
theorem Hs.new {S : Sto} {A : Hm} (h : Hs S A) (o : MO) : Hs (S.new o) ((S.next, o) :: A) := by
  refine ⟨List.nodup_cons.mpr ⟨fun z => ?_, h.nd⟩, fun p hp => ?_, fun p hp => ?_⟩
  · obtain ⟨q, hq, e⟩ := List.mem_map.mp z
    have := h.lt q hq
    have e : q.1 = S.next := e
    omega
  · rcases List.mem_cons.mp hp with z | z
    · rw [z]
      exact if_pos rfl
    · have := h.lt p z
      show (if p.1 = S.next then _ else _) = _
      rw [if_neg (by omega)]
      exact h.at_ p z
  · show p.1 < S.next + 1
    rcases List.mem_cons.mp hp with z | z
    · rw [z]
      exact Nat.lt_succ_self _
    · exact Nat.lt_succ_of_lt (h.lt p z)
/-- a branch -/
def Br (c : Bool) (X Y : Prop) : Prop := (c = true → X) ∧ (c = false → Y)
theorem Br.t {X Y : Prop} (h : X) : Br true X Y := ⟨fun _ => h, nofun⟩
theorem Br.f {X Y : Prop} (h : Y) : Br false X Y := ⟨nofun, fun _ => h⟩
theorem Br.n {c : Bool} {X Y : Prop} (h : Br c Y X) : Br (!c) X Y := by
  cases c
  · exact ⟨fun _ => h.2 rfl, nofun⟩
  · exact ⟨nofun, fun _ => h.1 rfl⟩
theorem Br.d {p : Prop} [Decidable p] {X Y : Prop} (h : p → X) (k : ¬ p → Y) : Br (decide p) X Y := ⟨fun z => h (of_decide_eq_true z), fun z => k (of_decide_eq_false z)⟩
theorem Br.dt {p : Prop} [Decidable p] {X Y : Prop} (h : p) (k : X) : Br (decide p) X Y := .d (fun _ => k) (fun z => absurd h z)
theorem Br.df {p : Prop} [Decidable p] {X Y : Prop} (h : ¬ p) (k : Y) : Br (decide p) X Y := .d (fun z => absurd z h) (fun _ => k)
theorem Br.b {c : Bool} {X Y : Prop} (h : c = true → X) (k : c = false → Y) : Br c X Y := ⟨h, k⟩
theorem Br.bt {c : Bool} {X Y : Prop} (h : c = true) (k : X) : Br c X Y := ⟨fun _ => k, fun z => by rw [h] at z; cases z⟩
theorem Br.bf {c : Bool} {X Y : Prop} (h : c = false) (k : Y) : Br c X Y := ⟨fun z => (by rw [h] at z; cases z), fun _ => k⟩
theorem Br.it {T n : String} {X Y : Prop} (h : isT T n = true) (k : X) : Br (isT T n) X Y := .bt h k
theorem Br.jt {T n : String} {X Y : Prop} (h : isT T n = false) (k : Y) : Br (isT T n) X Y := .bf h k
section
variable {α β : Type} {P : α → Sto → Prop} {S S1 : Sto} {ρ : Rho} {Q : PS} {A A' : Hm} {l : Nat}
theorem xt_or {P : Bool → Sto → Prop} {a b : EvT} (h : W (a ρ S) fun x S1 => Br x (P true S1) (W (b ρ S1) P)) : W (tOrE a b ρ S) P := wt_or h
theorem xt_and {P : Bool → Sto → Prop} {a b : EvT} (h : W (a ρ S) fun x S1 => Br x (W (b ρ S1) P) (P false S1)) : W (tAndE a b ρ S) P := wt_and (h.mono fun _ _ q => ⟨q.2, q.1⟩)
theorem xe_and {P : D → Sto → Prop} {a b : Ev} (h : W (a ρ S) fun x S1 => ∃ c, x = .bl c ∧ Br c (W (b ρ S1) P) (P (.bl false) S1)) : W (eAndE a b ρ S) P := we_and (h.mono fun _ _ ⟨c, e, q⟩ => ⟨c, e, q.2, q.1⟩)
theorem xe_or {P : D → Sto → Prop} {a b : Ev} (h : W (a ρ S) fun x S1 => ∃ c, x = .bl c ∧ Br c (P (.bl true) S1) (W (b ρ S1) P)) : W (eOrE a b ρ S) P := we_or (h.mono fun _ _ ⟨c, e, q⟩ => ⟨c, e, q.1, q.2⟩)
theorem xe_if {P : D → Sto → Prop} {t : EvT} {a b : Ev} (h : W (t ρ S) fun c S1 => Br c (W (a ρ S1) P) (W (b ρ S1) P)) : W (eIf t a b ρ S) P := we_if h
theorem xe_chain {P : D → Sto → Prop} {f g : D → D → Sto → Option (D × Sto)} {a b c : Ev} (h : W (a ρ S) fun x S1 => W (b ρ S1) fun y S2 => W (f x y S2) fun z S3 => ∃ k, z = .bl k ∧ Br k (W (c ρ S3) fun u S4 => W (g y u S4) P) (P (.bl false) S3)) : W (eChain f g a b c ρ S) P :=
  we_chain (h.mono fun _ _ q => q.mono fun _ _ q => q.mono fun _ _ ⟨k, e, q⟩ => ⟨k, e, q.2, q.1⟩)
theorem xs_if {t : EvT} {a b : EvS} (h : W (t ρ S) fun c S1 => Br c (WS (a ρ S1) Q) (WS (b ρ S1) Q)) : WS (sIf t a b ρ S) Q := ws_if h
def fFld (c i : Nat) (x : D) (S : Sto) : Option (D × Sto) := match x with
  | .ref l => match S.get l with
    | some (.ins c' fs) => if c' = c then (fs[i]?).map fun d => (d, S) else none
    | _ => none
  | _ => none
theorem xe_fld {c i : Nat} {a : Ev} {P : D → Sto → Prop} (h : W (a ρ S) fun x S1 => W (fFld c i x S1) P) : W (eFld c i a ρ S) P := w_bind h
theorem xo_fld {c i : Nat} {fs : List D} {d : D} {P : D → Sto → Prop} (hs : Hs S A) (m : (l, MO.ins c fs) ∈ A) (e : fs[i]? = some d) (h : P d S) : W (fFld c i (.ref l) S) P := by
  refine ⟨d, S, ?_, h⟩
  simp only [fFld, hs.get m, e, if_true, Option.map_some]
def pFld (c i : Nat) (x d : D) (S : Sto) : Option (Unit × Sto) := match x with
  | .ref l => match S.get l with
    | some (.ins c' fs) => if c' = c then (putL fs i d).map fun ds => ((), S.set l (.ins c ds)) else none
    | _ => none
  | _ => none
theorem xo_pFld {c i : Nat} {fs ds : List D} {d : D} {P : Unit → Sto → Prop} (hs : Hs S A) (u : Ud A l (.ins c fs) (.ins c ds) A') (e : putL fs i d = some ds) (h : ∀ S', Hs S' A' → P () S') : W (pFld c i (.ref l) d S) P := by
  refine ⟨(), _, ?_, h _ (hs.upd u)⟩
  simp only [pFld, hs.get u.mem, e, if_true, Option.map_some]
theorem pFld_is {c i : Nat} {x d : D} {S S3 : Sto} {u : Unit} (e : pFld c i x d S = some (u, S3)) : ∃ l fs ds, x = .ref l ∧ S.get l = some (.ins c fs) ∧ putL fs i d = some ds ∧ S3 = S.set l (.ins c ds) := by
  unfold pFld at e
  split at e
  · split at e
    · split at e
      · rename_i g z
        subst z
        obtain ⟨ds, e1, e2⟩ := Option.map_eq_some_iff.mp e
        cases e2
        exact ⟨_, _, ds, rfl, g, e1, rfl⟩
      · cases e
    · cases e
  · cases e
theorem xs_putF {c i : Nat} {eo ev : Ev} (h : W (ev ρ S) fun y S1 => W (eo ρ S1) fun x S2 => W (pFld c i x y S2) fun _ S3 => Q .nx ρ S3) : WS (sPutF c i eo ev ρ S) Q := ws_putF (h.mono fun y S1 q => q.mono fun x S2 ⟨_, S3, e, p⟩ => by
  obtain ⟨l, fs, ds, rfl, g, e1, rfl⟩ := pFld_is e
  exact ⟨l, fs, ds, rfl, g, e1, p⟩)
theorem xg_fd {c i : Nat} {eo : Ev} {d : D} {P : Rho → Sto → Prop} (h : W (eo ρ S) fun x S2 => W (pFld c i x d S2) fun _ S3 => P ρ S3) : W (gFd c i eo d ρ S) P := wg_fd (h.mono fun x S2 ⟨_, S3, e, p⟩ => by
  obtain ⟨l, fs, ds, rfl, g, e1, rfl⟩ := pFld_is e
  exact ⟨l, fs, ds, rfl, g, e1, p⟩)
def isI (c : Nat) (x : D) (S : Sto) : Option (Nat × Sto) := match x with
  | .ref l => match S.get l with
    | some (.ins c' _) => if c' = c then some (l, S) else none
    | _ => none
  | _ => none
theorem xo_isI {c : Nat} {fs : List D} {P : Nat → Sto → Prop} (hs : Hs S A) (m : (l, MO.ins c fs) ∈ A) (h : P l S) : W (isI c (.ref l) S) P := by
  refine ⟨l, S, ?_, h⟩
  simp only [isI, hs.get m, if_true]
theorem isI_is {c : Nat} {x : D} {S S1 : Sto} {l : Nat} (e : isI c x S = some (l, S1)) : S1 = S ∧ x = .ref l ∧ ∃ fs, S.get l = some (.ins c fs) := by
  unfold isI at e
  split at e
  · split at e
    · split at e
      · rename_i g z
        cases e
        subst z
        exact ⟨rfl, rfl, _, g⟩
      · cases e
    · cases e
  · cases e
theorem xe_mt {c : Nat} {F : Fn} {eo : Ev} {el : EvL} {P : D → Sto → Prop} (h : W (eo ρ S) fun x S1 => W (isI c x S1) fun l S2 => W (el ρ S2) fun ds S3 => W (callE F (.ref l :: ds) S3) P) : W (eMt c F eo el ρ S) P := we_mt (h.mono fun x S1 ⟨l, S2, e, q⟩ => by
  obtain ⟨rfl, rfl, fs, g⟩ := isI_is e
  exact ⟨l, fs, rfl, g, q⟩)
theorem xe_mtF {c : Nat} {F : Fn} {eo : Ev} {el : EvL} {P : List D → Sto → Prop} (h : W (eo ρ S) fun x S1 => W (isI c x S1) fun l S2 => W (el ρ S2) fun ds S3 => W (callF F (.ref l :: ds) S3) P) : W (fMt c F eo el ρ S) P := we_mtF (h.mono fun x S1 ⟨l, S2, e, q⟩ => by
  obtain ⟨rfl, rfl, fs, g⟩ := isI_is e
  exact ⟨l, fs, rfl, g, q⟩)
theorem xe_mtO {c : Nat} {F : Fn} {eo : Ev} {el : EvL} {P : D → Sto → Prop} (h : W (eo ρ S) fun x S1 => W (isI c x S1) fun l S2 => W (el ρ S2) fun ds S3 => W (callO F (.ref l :: ds) S3) P) : W (eMtO c F eo el ρ S) P := w_bind (h.mono fun x S1 ⟨l, S2, e, q⟩ => by
  obtain ⟨rfl, rfl, fs, g⟩ := isI_is e
  dsimp only
  rw [g]
  dsimp only
  rw [if_pos rfl]
  exact w_bind q)
def fOwn (ds : List D) (S : Sto) : Option (D × Sto) := some (.ref S.next, S.new (.lst ds))
theorem xo_own {ds : List D} {P : D → Sto → Prop} (hs : Hs S A) (h : ∀ l S', Hs S' ((l, .lst ds) :: A) → P (.ref l) S') : W (fOwn ds S) P := ⟨_, _, rfl, h _ _ (hs.new _)⟩
theorem xe_own {P : D → Sto → Prop} {a : EvL} (h : W (a ρ S) fun x S1 => W (fOwn x S1) P) : W (eOwn a ρ S) P := w_bind (h.mono fun _ _ q => q)
def fNew (c : Nat) (S : Sto) : Option (D × Sto) := some (.ref S.next, S.new (.ins c []))
theorem xo_new {c : Nat} {P : D → Sto → Prop} (hs : Hs S A) (h : ∀ l S', Hs S' ((l, .ins c []) :: A) → P (.ref l) S') : W (fNew c S) P := ⟨_, _, rfl, h _ _ (hs.new _)⟩
theorem xe_mk {c : Nat} {F : Fn} {el : EvL} {P : D → Sto → Prop} (h : W (el ρ S) fun ds S1 => W (fNew c S1) fun x S2 => W (F (x :: ds) S2) fun o S3 => o = .v .non ∧ P x S3) : W (eMk c F el ρ S) P := we_mk (h.mono fun ds S1 ⟨x, S2, e, q⟩ => by
  cases e
  exact q)
theorem xe_callO {F : Fn} {ds : List D} {P : D → Sto → Prop} (h : W (F ds S) fun o S1 => match o with | .v d => P d S1 | .f es => W (fOwn es S1) P) : W (callO F ds S) P := w_bind (h.mono fun o S1 q => by
  cases o with
  | v d => exact w_ret q
  | f es => exact q)
def fDisp (ks : List DK) (ds : List D) (S : Sto) : Option (D × Sto) := some (.ref S.next, S.new (.dic false (dmerge [] (ks.zip ds))))
theorem xo_disp {ks : List DK} {ds : List D} {kvs : List (DK × D)} {P : D → Sto → Prop} (hs : Hs S A) (e : dmerge [] (ks.zip ds) = kvs) (h : ∀ l S', Hs S' ((l, .dic false kvs) :: A) → P (.ref l) S') : W (fDisp ks ds S) P := by
  subst e
  exact ⟨_, _, rfl, h _ _ (hs.new _)⟩
theorem xe_disp {ks : List DK} {el : EvL} {P : D → Sto → Prop} (h : W (el ρ S) fun x S1 => W (fDisp ks x S1) P) : W (eDisp ks el ρ S) P := w_bind h
theorem xo_dget {lk : Bool} {kvs : List (DK × D)} {b d : D} {k : DK} {P : D → Sto → Prop} (hs : Hs S A) (m : (l, MO.dic lk kvs) ∈ A) (hk : keyD b = some k) (e : dget kvs k = some d) (h : P d S) : W (fDGet (.ref l) b S) P := by
  refine ⟨d, S, ?_, h⟩
  simp only [fDGet, hs.get m, hk, Option.bind_some, e, Option.map_some]
theorem xo_din {lk : Bool} {kvs : List (DK × D)} {b : D} {k : DK} {P : D → Sto → Prop} (hs : Hs S A) (m : (l, MO.dic lk kvs) ∈ A) (hk : keyD b = some k) (h : P (.bl (dget kvs k).isSome) S) : W (fDIn b (.ref l) S) P := by
  refine ⟨_, S, ?_, h⟩
  simp only [fDIn, hs.get m, hk, Option.map_some]
theorem xo_dnotin {lk : Bool} {kvs : List (DK × D)} {b : D} {k : DK} {P : D → Sto → Prop} (hs : Hs S A) (m : (l, MO.dic lk kvs) ∈ A) (hk : keyD b = some k) (h : P (.bl (!(dget kvs k).isSome)) S) : W (fDNotIn b (.ref l) S) P := by
  refine ⟨_, S, ?_, h⟩
  simp only [fDNotIn, hs.get m, hk, Option.map_some]
def pDPut (x y d : D) (S : Sto) : Option (Unit × Sto) := match x with
  | .ref l => match S.get l with
    | some (.dic false kvs) => if kvs.length < sizeLine then (keyD y).map fun k => ((), S.set l (.dic false (dput kvs k d))) else none
    | _ => none
  | _ => none
theorem pDPut_is {x y d : D} {S S3 : Sto} {u : Unit} (e : pDPut x y d S = some (u, S3)) : ∃ l kvs k, x = .ref l ∧ S.get l = some (.dic false kvs) ∧ kvs.length < sizeLine ∧ keyD y = some k ∧ S3 = S.set l (.dic false (dput kvs k d)) := by
  unfold pDPut at e
  split at e
  · split at e
    · split at e
      · rename_i g z
        obtain ⟨k, e1, e2⟩ := Option.map_eq_some_iff.mp e
        cases e2
        exact ⟨_, _, k, rfl, g, z, e1, rfl⟩
      · cases e
    · cases e
  · cases e
theorem xg_dput {eo ei : Ev} {d : D} {P : Rho → Sto → Prop} (h : W (eo ρ S) fun x S1 => W (ei ρ S1) fun y S2 => W (pDPut x y d S2) fun _ S3 => P ρ S3) : W (gDPut eo ei d ρ S) P := w_bind (h.mono fun x S1 q => w_bind (q.mono fun y S2 ⟨_, S3, e, p⟩ => by
  obtain ⟨l, kvs, k, rfl, g, z, e1, rfl⟩ := pDPut_is e
  refine ⟨ρ, _, ?_, p⟩
  simp only [g, e1, if_pos z, Option.map_some]))
theorem xo_dput {kvs kvs' : List (DK × D)} {y d : D} {k : DK} {P : Unit → Sto → Prop} (hs : Hs S A) (u : Ud A l (.dic false kvs) (.dic false kvs') A') (hk : keyD y = some k) (lz : kvs.length < 16777216) (e : dput kvs k d = kvs') (h : ∀ S', Hs S' A' → P () S') : W (pDPut (.ref l) y d S) P := by
  subst e
  refine ⟨(), _, ?_, h _ (hs.upd u)⟩
  simp only [pDPut, hs.get u.mem, hk, sizeLine_eq, if_pos lz, Option.map_some]
theorem Hs.lst {a : D} {ds : List D} (hs : Hs S A) (m : (l, MO.lst ds) ∈ A) : lstOf S (.ref l) = some ds := by
  simp only [lstOf, hs.get m]
theorem xo_ixR {ds : List D} {i : Int} {d : D} {P : D → Sto → Prop} (hs : Hs S A) (m : (l, MO.lst ds) ∈ A) (h0 : 0 ≤ i) (e : ds[i.toNat]? = some d) (h : P d S) : W (fIx (.ref l) (.int i) S) P := wo_ixR (hs.get m) h0 e h
theorem xo_lenR {ds : List D} {P : D → Sto → Prop} (hs : Hs S A) (m : (l, MO.lst ds) ∈ A) (h : P (.int ds.length) S) : W (fLen [.ref l] S) P := wo_lenR (hs.get m) h
theorem xo_slR {ds : List D} {lo hi : Option Int} {P : List D → Sto → Prop} (hs : Hs S A) (m : (l, MO.lst ds) ∈ A) (h : P (cutL ds lo hi) S) : W (fSlL (.ref l) lo hi S) P := wo_slR (hs.get m) h
theorem xo_listR {ds : List D} {P : List D → Sto → Prop} (hs : Hs S A) (m : (l, MO.lst ds) ∈ A) (h : P ds S) : W (fListOf [.ref l] S) P := wo_listR (hs.get m) h
theorem xo_append {ds : List D} {d : D} {P : D → Sto → Prop} (hs : Hs S A) (u : Ud A l (.lst ds) (.lst (ds ++ [d])) A') (lz : ds.length < 16777216) (h : ∀ S', Hs S' A' → P .non S') : W (fAppend (.ref l) [d] S) P := wo_append (hs.get u.mem) lz (h _ (hs.upd u))
theorem xo_clear {ds : List D} {P : D → Sto → Prop} (hs : Hs S A) (u : Ud A l (.lst ds) (.lst []) A') (h : ∀ S', Hs S' A' → P .non S') : W (fClear (.ref l) [] S) P := wo_clear (hs.get u.mem) (h _ (hs.upd u))
def isL (x : D) (S : Sto) : Option (Nat × Sto) := match x with
  | .ref l => match S.get l with
    | some (.lst _) => some (l, S)
    | _ => none
  | _ => none
theorem xo_isL {ds : List D} {P : Nat → Sto → Prop} (hs : Hs S A) (m : (l, MO.lst ds) ∈ A) (h : P l S) : W (isL (.ref l) S) P := by
  refine ⟨l, S, ?_, h⟩
  simp only [isL, hs.get m]
theorem isL_is {x : D} {S S1 : Sto} {l : Nat} (e : isL x S = some (l, S1)) : S1 = S ∧ x = .ref l ∧ ∃ ds, S.get l = some (.lst ds) := by
  unfold isL at e
  split at e
  · split at e
    · rename_i g
      cases e
      exact ⟨rfl, rfl, _, g⟩
    · cases e
  · cases e
theorem xe_bm {f : D → List D → Sto → Option (D × Sto)} {eo : Ev} {el : EvL} {P : D → Sto → Prop} (h : W (eo ρ S) fun x S1 => W (isL x S1) fun l S2 => W (el ρ S2) fun y S3 => W (f (.ref l) y S3) P) : W (eBM f eo el ρ S) P := we_bm (h.mono fun x S1 ⟨l, S2, e, q⟩ => by
  obtain ⟨rfl, rfl, ds, g⟩ := isL_is e
  exact ⟨_, _, rfl, g, q⟩)
def pSb (x y d : D) (S : Sto) : Option (Unit × Sto) := match x, y with
  | .ref l, .int i => match S.get l with
    | some (.lst ds) => (ixN ds.length i).bind fun j => some ((), S.set l (.lst (ds.set j d)))
    | _ => none
  | _, _ => none
theorem pSb_is {x y d : D} {S S3 : Sto} {u : Unit} (e : pSb x y d S = some (u, S3)) : ∃ l i ds j, x = .ref l ∧ y = .int i ∧ S.get l = some (.lst ds) ∧ ixN ds.length i = some j ∧ S3 = S.set l (.lst (ds.set j d)) := by
  unfold pSb at e
  split at e
  · split at e
    · rename_i g
      obtain ⟨j, e1, e2⟩ := Option.bind_eq_some_iff.mp e
      cases e2
      exact ⟨_, _, _, j, rfl, rfl, g, e1, rfl⟩
    · cases e
  · cases e
theorem xg_sb {eo ei : Ev} {d : D} {P : Rho → Sto → Prop} (h : W (eo ρ S) fun x S1 => W (ei ρ S1) fun y S2 => W (pSb x y d S2) fun _ S3 => P ρ S3) : W (gSb eo ei d ρ S) P := w_bind (h.mono fun x S1 q => w_bind (q.mono fun y S2 ⟨_, S3, e, p⟩ => by
  obtain ⟨l, i, ds, j, rfl, rfl, g, e1, rfl⟩ := pSb_is e
  refine ⟨ρ, _, ?_, p⟩
  simp only [g, e1, Option.bind_some]))
/-- a cut between two statements -/
theorem xs_cut {a b : EvS} (M : Rho → Sto → Prop) (h : WS (a ρ S) fun f ρ S => f = .nx ∧ M ρ S) (k : ∀ ρ S, M ρ S → WS (b ρ S) Q) : WS (sSeq a b ρ S) Q := ws_seq (h.mono fun f ρ S ⟨e, m⟩ => by
  subst e
  exact k ρ S m)
end
end AH
set_option maxRecDepth 100000
set_option maxHeartbeats 4000000
namespace AH
open PySem L2 TL
open Classical in
theorem perm_cnt {A B : Hm} (h : ∀ a, A.count a = B.count a) : A.Perm B := List.perm_iff_count.mpr h
theorem wo_ixI {S : Sto} {xs : List Int} {r : Nat} {P : D → Sto → Prop} (h : r < xs.length) (k : ∀ y ∈ xs, P (.int y) S) : W (fIx (.lst (xs.map D.int)) (.int r) S) P := by
  refine wo_ixL (d := .int xs[r]) (by omega) ?_ (k _ (List.getElem_mem h))
  rw [Int.toNat_natCast, List.getElem?_map, List.getElem?_eq_getElem h]
  rfl
structure BoxG (l m : Nat) where
  q : Int
  xs : List Int
  h : xs.length ≤ 63
  lt : m < l
abbrev bxA (l m : Nat) (g : BoxG l m) (A : Hm) : Hm := (l, .lst [.ref m, .int g.q]) :: (m, .lst (g.xs.map .int)) :: A
section
variable {S : Sto} {l m : Nat} {g : BoxG l m} {A A' : Hm}
theorem Hs.box (hs : Hs S (bxA l m g A)) : Box S l m := by
  exact ⟨g.lt, ⟨_, hs.get (List.mem_cons_self ..)⟩, ⟨_, hs.get (List.mem_cons_of_mem _ (List.mem_cons_self ..)), g.h⟩, hs.lt (l, MO.lst [.ref m, .int g.q]) (List.mem_cons_self ..)⟩
theorem Hs.unbox (hs : Hs S (bxA l m g A)) {S' : Sto} (b : Bx l m S S') : ∃ g', Hs S' (bxA l m g' A) := by
  obtain ⟨q, e1⟩ := b.box.out
  obtain ⟨xs, e2, z⟩ := b.box.inn
  refine ⟨⟨q, xs, z, g.lt⟩, ⟨hs.nd, fun p hp => ?_, fun p hp => ?_⟩⟩
  · have n := hs.nd
    rw [List.map_cons, List.map_cons, List.nodup_cons, List.nodup_cons] at n
    rcases List.mem_cons.mp hp with e | hp
    · rw [e]; exact e1
    rcases List.mem_cons.mp hp with e | hp
    · rw [e]; exact e2
    have m1 : p.1 ∈ A.map (·.1) := List.mem_map_of_mem hp
    rw [b.fr p.1 (fun e => n.1 (by have q := List.mem_cons_of_mem m m1; rw [e] at q; exact q)) (fun e => n.2.1 (by rw [e] at m1; exact m1))]
    exact hs.at_ p (List.mem_cons_of_mem _ (List.mem_cons_of_mem _ hp))
  · rw [b.nx]
    rcases List.mem_cons.mp hp with e | hp
    · rw [e]; exact hs.lt (l, MO.lst [.ref m, .int g.q]) (List.mem_cons_self ..)
    rcases List.mem_cons.mp hp with e | hp
    · rw [e]; exact hs.lt (m, MO.lst (g.xs.map .int)) (List.mem_cons_of_mem _ (List.mem_cons_self ..))
    exact hs.lt p (List.mem_cons_of_mem _ (List.mem_cons_of_mem _ hp))
theorem draw_w {n : Nat} (hs : Hs S (bxA l m g A)) (h0 : 0 < n) (h1 : n < 1073741824) : W (F_take [.ref l, .int n] S) fun o S' => ∃ (r : Nat) (g' : BoxG l m), o = .v (.int r) ∧ r < n ∧ Hs S' (bxA l m g' A) :=
  (draw_nat hs.box h0 h1).mono fun o S' ⟨r, e, hr, b⟩ => let ⟨g', h'⟩ := hs.unbox b; ⟨r, g', e, hr, h'⟩
theorem Hs.putB {p : Nat × MO} (h : Hs S (p :: bxA l m g A)) : Hs S (bxA l m g (p :: A)) := h.perm ((List.Perm.swap _ _ _).trans (List.Perm.cons _ (List.Perm.swap _ _ _)))
theorem xo_ownB {ds : List D} {P : D → Sto → Prop} (hs : Hs S (bxA l m g A)) (h : ∀ l' S', Hs S' (bxA l m g ((l', .lst ds) :: A)) → P (.ref l') S') : W (fOwn ds S) P := ⟨_, _, rfl, h _ _ (hs.new _).putB⟩
theorem xo_newB {c : Nat} {P : D → Sto → Prop} (hs : Hs S (bxA l m g A)) (h : ∀ l' S', Hs S' (bxA l m g ((l', .ins c []) :: A)) → P (.ref l') S') : W (fNew c S) P := ⟨_, _, rfl, h _ _ (hs.new _).putB⟩
theorem xo_newK {P : D → Sto → Prop} (hs : Hs S A) (h : ∀ l' S', Hs S' ((l', .dic false []) :: A) → P (.ref l') S') : W (fNewK S) P := ⟨_, _, rfl, h _ _ (hs.new _)⟩
theorem xo_newKB {P : D → Sto → Prop} (hs : Hs S (bxA l m g A)) (h : ∀ l' S', Hs S' (bxA l m g ((l', .dic false []) :: A)) → P (.ref l') S') : W (fNewK S) P := ⟨_, _, rfl, h _ _ (hs.new _).putB⟩
theorem xo_newT {P : D → Sto → Prop} (hs : Hs S A) (h : ∀ l' S', Hs S' ((l', .dit false []) :: A) → P (.ref l') S') : W (fNewT S) P := ⟨_, _, rfl, h _ _ (hs.new _)⟩
theorem xo_newTB {P : D → Sto → Prop} (hs : Hs S (bxA l m g A)) (h : ∀ l' S', Hs S' (bxA l m g ((l', .dit false []) :: A)) → P (.ref l') S') : W (fNewT S) P := ⟨_, _, rfl, h _ _ (hs.new _).putB⟩
theorem xe_newK {ρ : Rho} {P : D → Sto → Prop} (h : W (fNewK S) P) : W (eNewK ρ S) P := h
theorem xe_newT {ρ : Rho} {P : D → Sto → Prop} (h : W (fNewT S) P) : W (eNewT ρ S) P := h
theorem Pc.hs {l : Nat} {p p' : PV} {S S' : Sto} (c : Pc l p' S S') (hs : Hs S A) (u : Ud A l (.ins 0 (paneD p)) (.ins 0 (paneD p')) A') : Hs S' A' := by
  obtain ⟨X, Y, rfl, rfl⟩ := u.out
  exact hs.fr1 (by rw [c.nx]; exact Nat.le_refl _) c.at_ fun k hk _ => c.fr k hk
theorem pinit_w (hs : Hs S A) (u : Ud A l (.ins 0 []) (.ins 0 (paneD ⟨[], [], none, 0, [], []⟩)) A') : W (F_Pane___init__ [.ref l] S) fun o S' => o = .v .non ∧ Hs S' A' := (init_ok (hs.get u.mem)).mono fun o S' ⟨e, c⟩ => by
  obtain ⟨X, Y, rfl, rfl⟩ := u.out
  exact ⟨e, hs.fr1 (by rw [c.nx]; exact Nat.le_refl _) c.at_ fun k hk _ => c.fr k hk⟩
theorem press_w {c : Nat} {p : PV} {a b : D} (hs : Hs S A) (u : Ud A l (.ins 0 (paneD p)) (.ins 0 (paneD (pressV p (.tup [a, b, .str [c]]) c))) A') (g : Pg p) (hc : c ∈ an) : W (F_Pane_press [.ref l, a, b, .str [c]] S) fun o S' => o = .v .non ∧ Hs S' A' ∧ Pg (pressV p (.tup [a, b, .str [c]]) c) :=
  (press_ok (hs.get u.mem) g hc).mono fun o S' ⟨e, k, g'⟩ => ⟨e, k.hs hs u, g'⟩
theorem rows_w {p : PV} (hs : Hs S A) (u : (l, MO.ins 0 (paneD p)) ∈ A) : W (F_Pane_rows [.ref l] S) fun o S' => o = .f (p.kept.map .str) ∧ S' = S := rows_ok (hs.get u)
theorem typed_w {p : PV} (hs : Hs S A) (u : (l, MO.ins 0 (paneD p)) ∈ A) : W (F_Pane_typed [.ref l] S) fun o S' => o = .f p.notes ∧ S' = S := typed_ok (hs.get u)
theorem line_w {p : PV} (hs : Hs S A) (u : (l, MO.ins 0 (paneD p)) ∈ A) : W (F_Pane_line [.ref l] S) fun o S' => o = .v (.str p.text) ∧ S' = S := line_ok (hs.get u)
theorem changes_w {p : PV} (hs : Hs S A) (u : (l, MO.ins 0 (paneD p)) ∈ A) : W (F_Pane_changes [.ref l] S) fun o S' => o = .v (.int p.many) ∧ S' = S := changes_ok (hs.get u)
def sinceZ (p : PV) (z : Int) : Out := if (p.many : Int) - p.past.length ≤ z ∧ z ≤ p.many then .f ((lastN ((p.many : Int) - z).toNat p.past).map chD) else .v .non
theorem since_w {p : PV} {z : Int} (hs : Hs S A) (u : (l, MO.ins 0 (paneD p)) ∈ A) : W (F_Pane_since [.ref l, .int z] S) fun o S' => o = sinceZ p z ∧ S' = S := by
  refine w_run rfl ?_
  show WS (b_Pane_since [.val (.ref l), .val (.int z)] S) _
  unfold b_Pane_since sinceZ
  have eL : ((p.past.map chD).length : Int) = p.past.length := by simp
  fail "STEP"
  rw [eL]
  refine Br.d (fun z1 => ?_) (fun z1 => ?_)
  · fail "STEP"
    refine Br.d (fun z2 => ?_) (fun z2 => ?_)
    · fail "STEP"
      rw [if_pos ⟨z1, z2⟩, eL]
      refine ⟨?_, rfl⟩
      have e : (p.past.length : Int) - ((p.many : Int) - z) = ((p.past.length - ((p.many : Int) - z).toNat : Nat) : Int) := by omega
      rw [e, show cutL (p.past.map chD) (some ((p.past.length - ((p.many : Int) - z).toNat : Nat) : Int)) none = (p.past.map chD).drop _ from cut_hi _ _]
      unfold lastN
      rw [List.map_drop]
    · fail "STEP"
      rw [if_neg (fun h => z2 h.2)]
      exact ⟨rfl, rfl⟩
  · fail "STEP"
    rw [if_neg (fun h => z1 h.1)]
    exact ⟨rfl, rfl⟩
inductive AkL (S : Sto) (n : Nat) : List D → List D → Prop
  | nil : AkL S n [] []
  | cons {a b : D} {as bs : List D} : Ak S n a b → AkL S n as bs → AkL S n (a :: as) (b :: bs)
theorem AkL.len {n : Nat} {as bs : List D} (h : AkL S n as bs) : as.length = bs.length := by
  induction h with
  | nil => rfl
  | cons _ _ ih => simp [ih]
theorem AkL.at {n : Nat} {as bs : List D} (h : AkL S n as bs) : ∀ (i : Nat) a b, as[i]? = some a → bs[i]? = some b → Ak S n a b := by
  induction h with
  | nil => intro i a b h; simp at h
  | cons h _ ih =>
    intro i x y h1 h2
    cases i with
    | zero => simp at h1 h2; rw [← h1, ← h2]; exact h
    | succ i => exact ih i x y (by simpa using h1) (by simpa using h2)
theorem Ak.tup' {n : Nat} {as bs : List D} (h : AkL S n as bs) (z : as.length ≤ 1000000) : Ak S (n + 1) (.tup as) (.tup bs) := .tup h.len z h.at
theorem AkL.map {α : Type} {n : Nat} {f : α → D} {xs : List α} (h : ∀ x ∈ xs, Ak S n (f x) (f x)) : AkL S n (xs.map f) (xs.map f) := by
  induction xs with
  | nil => exact .nil
  | cons x xs ih => exact .cons (h x (List.mem_cons_self ..)) (ih fun y hy => h y (List.mem_cons_of_mem _ hy))
theorem xl_lc {ρ : Rho} {it : EvL} {vs : List Nat} {g : EvP} {t : EvT} {e : Ev} {P : List D → Sto → Prop} (h : W (it ρ S) fun all S1 => W (lcC g t e (wipeR ρ vs) all S1) fun r S2 => r.length ≤ 16777216 ∧ P r S2) : W (fLc it vs g t e ρ S) P :=
  w_bind (h.mono fun all S1 ⟨r, S2, e1, l, p⟩ => ⟨r, S2, by
    dsimp only
    rw [e1]
    exact if_pos (by rw [sizeLine_eq]; exact l), p⟩)
theorem xl_nil {ρ : Rho} {g : EvP} {t : EvT} {e : Ev} {P : List D → Sto → Prop} (h : P [] S) : W (lcC g t e ρ [] S) P := ⟨_, _, rfl, h⟩
theorem xl_cons {ρ ρ1 : Rho} {g : EvP} {t : EvT} {e : Ev} {d : D} {ds : List D} {P : List D → Sto → Prop} (eg : g d ρ = some ρ1) (h : W (t ρ1 S) fun c S1 => Br c (W (e ρ1 S1) fun x S2 => W (lcC g t e ρ ds S2) fun r S3 => P (x :: r) S3) (W (lcC g t e ρ ds S1) P)) : W (lcC g t e ρ (d :: ds) S) P := by
  unfold lcC
  rw [eg]
  refine w_bind (h.mono fun c S1 q => ?_)
  cases c with
  | true => exact w_bind ((q.1 rfl).mono fun x S2 q => w_bind (q.mono fun r S3 q => w_ret q))
  | false => exact q.2 rfl
/-- each item by a function, nothing is changed -/
theorem xl_map {α : Type} {ρ : Rho} {g : EvP} {e : Ev} {f F : α → D} {P : List D → Sto → Prop} : ∀ {xs : List α}, (∀ x ∈ xs, ∃ ρ1, g (f x) ρ = some ρ1 ∧ W (e ρ1 S) fun y S' => y = F x ∧ S' = S) → P (xs.map F) S → W (lcC g tYesE e ρ (xs.map f) S) P
  | [], _, p => xl_nil p
  | x :: xs, h, p => by
    obtain ⟨ρ1, e1, h1⟩ := h x (List.mem_cons_self ..)
    refine xl_cons e1 (wt_yes (Br.t (h1.mono fun y S' ⟨ey, es⟩ => ?_)))
    rw [ey, es]
    exact xl_map (fun y hy => h y (List.mem_cons_of_mem _ hy)) p
theorem xf_nil {ρ : Rho} {g : EvG} {b : EvS} {Q : PS} (h : Q .nx ρ S) : WS (forL g b [] ρ S) Q := ⟨_, _, _, rfl, h⟩
end
end AH
set_option maxRecDepth 100000
set_option maxHeartbeats 4000000
namespace AH
open PySem L2 TL
noncomputable section
def b_is_number : EvS := (sRet (eAndE (eN fIsT (aCons (eVar 0) (aCons (eC (.raw (.ty "int"))) aNil))) (eAndE (eNotE (eN fIsT (aCons (eVar 0) (aCons (eC (.raw (.ty "bool"))) aNil)))) (eChain fLe fLe (eVar 1) (eVar 0) (eVar 2)))))
def F_is_number : Fn := runB 3 3 b_is_number
def b_need_size : EvS := (sIf (tOrE (tNotE (tOf (eN (callE AH.F_is_number) (aCons (eVar 0) (aCons (eC (.int 2)) (aCons (eC (.int 40)) aNil)))))) (tNotE (tOf (eN (callE AH.F_is_number) (aCons (eVar 1) (aCons (eC (.int 1)) (aCons (eC (.int 20)) aNil))))))) sNever sNext)
def F_need_size : Fn := runB 2 2 b_need_size
def b_Look___init__ : EvS := (sSeq (sAsg (eAndE (eN (callE AH.F_is_number) (aCons (eVar 1) (aCons (eC (.int 0)) (aCons (eC (.int 3)) aNil)))) (eN (callE AH.F_is_number) (aCons (eVar 2) (aCons (eC (.int 1)) (aCons (eC (.int 100000)) aNil))))) (gNm 6))
  (sSeq (sIf (tOrE (tNotE (tOf (eVar 6))) (tNotE (tOf (eN (callE AH.F_is_number) (aCons (eVar 3) (aCons (eC (.int 0)) (aCons (e2 fSub (eC (.int 3)) (eC (.int 1))) aNil))))))) sNever sNext)
  (sSeq (sDo (eN (callE AH.F_need_size) (aCons (eVar 4) (aCons (eVar 5) aNil))))
  (sSeq (sPutF 1 0 (eVar 0) (eTup (aCons (eVar 1) (aCons (eVar 2) (aCons (eVar 3) aNil)))))
  (sSeq (sPutF 1 1 (eVar 0) (eTup (aCons (eVar 4) (aCons (eVar 5) aNil))))
  (sSeq (sPutF 1 2 (eVar 0) (eV (fLst aNil)))
  (sSeq (sPutF 1 3 (eVar 0) (eC (.str [])))
  (sSeq (sPutF 1 4 (eVar 0) (eC .non))
  (sSeq (sPutF 1 5 (eVar 0) (eC (.int 0)))
  (sSeq (sPutF 1 6 (eVar 0) (eC (.str [])))
  (sSeq (sPutF 1 7 (eVar 0) (eC (.bl false)))
  (sPutF 1 8 (eVar 0) (eC (.bl false))))))))))))))
def F_Look___init__ : Fn := runB 6 7 b_Look___init__
def b_Look_press : EvS := (sSeq (sIf (tOrE (tOf (eFld 1 7 (eVar 0))) (tOf (eFld 1 8 (eVar 0)))) sNever sNext)
  (sSeq (sDo (eN (callE AH.F_need_signs) (aCons (eVar 1) aNil)))
  (sPutF 1 6 (eVar 0) (e2 fAdd (eFld 1 6 (eVar 0)) (eVar 1)))))
def F_Look_press : Fn := runB 2 2 b_Look_press
def b_Look_letters : EvS := (sSeq (sIf (tOf (eFld 1 8 (eVar 0))) (sRetF (fLst aNil)) sNext)
  (sSeq (sAsg (eV (fLc (iT (eFld 1 0 (eVar 0))) [2] (pNm 2) tYesE (eN fStr (aCons (eVar 2) aNil)))) (gNm 1))
  (sSeq (sIf (tOf (eFld 1 7 (eVar 0))) (sRetF (fLst (aCons (eN (callE AH.F_packed) (aCons (eV (e2 fCat (eV (fLst (aCons (eC (.str [103, 111, 110, 101])) aNil))) (eVar 1))) aNil)) aNil))) sNext)
  (sSeq (sAsg (eIf (tOf (eIsN (eFld 1 4 (eVar 0)))) (eC (.str [63])) (eN fStr (aCons (eFld 1 4 (eVar 0)) aNil))) (gNm 3))
  (sRetF (fLst (aCons (eN (callE AH.F_packed) (aCons (eV (e2 fCat (eV (e2 fCat (eV (fLst (aCons (eC (.str [97, 116])) aNil))) (eVar 1))) (eV (fLst (aCons (eVar 3) (aCons (eN fStr (aCons (eFld 1 5 (eVar 0)) aNil)) (aCons (e3 fSl (eFld 1 6 (eVar 0)) oNone (oSome (eC (.int 20)))) aNil))))))) aNil)) aNil)))))))
def F_Look_letters : Fn := runB 1 4 b_Look_letters
def b_Look_take : EvS := (sFor (iR3 (aCons (eC (.int 0)) (aCons (eN fLen (aCons (eVar 2) aNil)) (aCons (eC (.int 2)) aNil)))) (gNm 3) (sSeq (sIf (tOf (e2 fEq (eFld 1 4 (eVar 0)) (eVar 1))) (sSeq (sAsg (eN (callE AH.F_changed) (aCons (eFld 1 2 (eVar 0)) (aCons (eFld 1 3 (eVar 0)) (aCons (eTup (aCons (e2 fIx (eVar 2) (eVar 3)) (aCons (e2 fIx (eVar 2) (e2 fAdd (eVar 3) (eC (.int 1)))) aNil))) aNil)))) (gTp 2 (gsCons (gFd 1 2 (eVar 0)) (gsCons (gFd 1 3 (eVar 0)) gsNil))))
  (sPutF 1 4 (eVar 0) (e2 fAdd (eVar 1) (eC (.int 1))))) sNext)
  (sAsg (e2 fAdd (eVar 1) (eC (.int 1))) (gNm 1))))
def F_Look_take : Fn := runB 3 4 b_Look_take
def b_Look_hear : EvS := (sSeq (sAsg (eN (callE AH.F_unpacked) (aCons (eVar 1) aNil)) (gNm 2))
  (sSeq (sIf (tOrE (tOf (eIsN (eVar 2))) (tOrE (tOf (e2 (fIn true) (e2 fIx (eVar 2) (eC (.int 0))) (eTup (aCons (eC (.str [115, 111, 109, 101])) (aCons (eC (.str [119, 104, 111, 108, 101])) aNil))))) (tOf (e2 fNe (eN (callE AH.F_number) (aCons (e2 fIx (eVar 2) (eC (.int 1))) aNil)) (e2 fIx (eFld 1 0 (eVar 0)) (eC (.int 0))))))) sRetN sNext)
  (sSeq (sAsg (eN (callE AH.F_number) (aCons (e2 fIx (eVar 2) (eC (.int 2))) aNil)) (gNm 3))
  (sSeq (sIf (tOf (e2 fNe (eVar 3) (e2 fIx (eFld 1 0 (eVar 0)) (eC (.int 1))))) (sSeq (sPutF 1 8 (eVar 0) (eOrE (eFld 1 8 (eVar 0)) (e2 fGt (eVar 3) (e2 fIx (eFld 1 0 (eVar 0)) (eC (.int 1))))))
  sRetN) sNext)
  (sSeq (sAsg (eN (callE AH.F_number) (aCons (e2 fIx (eVar 2) (eC (.int 3))) aNil)) (gNm 4))
  (sSeq (sIf (tOf (e2 fGt (eVar 4) (eFld 1 5 (eVar 0)))) (sSeq (sPutF 1 6 (eVar 0) (e3 fSl (eFld 1 6 (eVar 0)) (oSome (e2 fSub (eVar 4) (eFld 1 5 (eVar 0)))) oNone))
  (sPutF 1 5 (eVar 0) (eVar 4))) sNext)
  (sIf (tOf (e2 fEq (e2 fIx (eVar 2) (eC (.int 0))) (eC (.str [115, 111, 109, 101])))) (sDo (eMt 1 AH.F_Look_take (eVar 0) (aCons (eN (callE AH.F_number) (aCons (e2 fIx (eVar 2) (eC (.int 4))) aNil)) (aCons (eV (e3 fSlL (eVar 2) (oSome (eC (.int 5))) oNone)) aNil)))) (sIf (tOrE (tOf (eIsN (eFld 1 4 (eVar 0)))) (tOf (e2 fGt (eN (callE AH.F_number) (aCons (e2 fIx (eVar 2) (eC (.int 4))) aNil)) (eFld 1 4 (eVar 0))))) (sSeq (sPutF 1 4 (eVar 0) (eN (callE AH.F_number) (aCons (e2 fIx (eVar 2) (eC (.int 4))) aNil)))
  (sSeq (sPutF 1 3 (eVar 0) (e2 fIx (eVar 2) (eC (.int 5))))
  (sPutF 1 2 (eVar 0) (eV (e3 fSlL (eVar 2) (oSome (eC (.int 6))) oNone))))) sNext))))))))
def F_Look_hear : Fn := runB 2 5 b_Look_hear
def b_Look_waiting : EvS := (sRet (eN fLen (aCons (eFld 1 6 (eVar 0)) aNil)))
def F_Look_waiting : Fn := runB 1 1 b_Look_waiting
def b_Look_over : EvS := (sRet (eFld 1 8 (eVar 0)))
def F_Look_over : Fn := runB 1 1 b_Look_over
def b_Seat___init__ : EvS := (sSeq (sPutF 2 0 (eVar 0) (eVar 1))
  (sSeq (sPutF 2 1 (eVar 0) (eVar 2))
  (sSeq (sPutF 2 2 (eVar 0) (eC (.int 0)))
  (sSeq (sPutF 2 3 (eVar 0) (eC .non))
  (sPutF 2 4 (eVar 0) (eC (.bl true)))))))
def F_Seat___init__ : Fn := runB 3 3 b_Seat___init__
def b_Hall___init__ : EvS := (sSeq (sIf (tNotE (tOf (eN (callE AH.F_is_number) (aCons (eVar 1) (aCons (eC (.int 1)) (aCons (eC (.int 3)) aNil)))))) sNever sNext)
  (sSeq (sPutF 3 0 (eVar 0) (eV (fLc (iR1 (aCons (eVar 1) aNil)) [2] (pNm 2) tYesE (eMk 0 AH.F_Pane___init__ aNil))))
  (sPutF 3 1 (eVar 0) eNewK)))
def F_Hall___init__ : Fn := runB 2 3 b_Hall___init__
def b_Hall_take : EvS := (sSeq (sAsg (eIf (tOf (e2 fEq (e2 fIx (eVar 3) (eC (.int 0))) (eC (.str [63])))) (eC .non) (eN (callE AH.F_number) (aCons (e2 fIx (eVar 3) (eC (.int 0))) aNil))) (gNm 4))
  (sSeq (sIf (tAndE (tOf (eNotN (eVar 4))) (tOrE (tOf (eIsN (eFld 2 3 (eVar 2)))) (tOf (e2 fGt (eVar 4) (eFld 2 3 (eVar 2)))))) (sPutF 2 3 (eVar 2) (eVar 4)) sNext)
  (sSeq (sAsg (eN (callE AH.F_number) (aCons (e2 fIx (eVar 3) (eC (.int 1))) aNil)) (gNm 5))
  (sFor (iS (e2 fIx (eVar 3) (eC (.int 2)))) (gNm 6) (sSeq (sIf (tOf (e2 fEq (eVar 5) (eFld 2 2 (eVar 2)))) (sSeq (sDo (eMt 0 AH.F_Pane_press (e2 fIx (eFld 3 0 (eVar 0)) (eFld 2 1 (eVar 2))) (aCons (eVar 1) (aCons (eFld 2 0 (eVar 2)) (aCons (eVar 6) aNil)))))
  (sPutF 2 2 (eVar 2) (e2 fAdd (eFld 2 2 (eVar 2)) (eC (.int 1))))) sNext)
  (sAsg (e2 fAdd (eVar 5) (eC (.int 1))) (gNm 5)))))))
def F_Hall_take : Fn := runB 4 7 b_Hall_take
def b_Hall_hear : EvS := (sSeq (sAsg (eN (callE AH.F_unpacked) (aCons (eVar 1) aNil)) (gNm 2))
  (sSeq (sIf (tOrE (tOf (eIsN (eVar 2))) (tOf (e2 (fIn true) (e2 fIx (eVar 2) (eC (.int 0))) (eTup (aCons (eC (.str [97, 116])) (aCons (eC (.str [103, 111, 110, 101])) aNil)))))) sRetN sNext)
  (sSeq (sAsg (eV (fLc (e3 fSlL (eVar 2) (oSome (eC (.int 1))) (oSome (eC (.int 4)))) [6] (pNm 6) tYesE (eN (callE AH.F_number) (aCons (eVar 6) aNil)))) (gUn 3 (gsCons (gNm 3) (gsCons (gNm 4) (gsCons (gNm 5) gsNil)))))
  (sSeq (sIf (tOf (e2 fGe (eVar 5) (eN fLen (aCons (eFld 3 0 (eVar 0)) aNil)))) sRetN sNext)
  (sSeq (sAsg (eDGet2 (eFld 3 1 (eVar 0)) (eVar 3) (eC .non)) (gNm 7))
  (sSeq (sIf (tOrE (tOf (eIsN (eVar 7))) (tOf (e2 fGt (eVar 4) (eFld 2 0 (eVar 7))))) (sSeq (sAsg (eMk 2 AH.F_Seat___init__ (aCons (eVar 4) (aCons (eVar 5) aNil))) (gNm 7))
  (sAsg (eVar 7) (gDPut (eFld 3 1 (eVar 0)) (eVar 3)))) sNext)
  (sSeq (sIf (tOrE (tOf (e2 fLt (eVar 4) (eFld 2 0 (eVar 7)))) (tNotE (tOf (eFld 2 4 (eVar 7))))) sRetN sNext)
  (sIf (tOf (e2 fEq (e2 fIx (eVar 2) (eC (.int 0))) (eC (.str [103, 111, 110, 101])))) (sPutF 2 4 (eVar 7) (eC (.bl false))) (sDo (eMt 3 AH.F_Hall_take (eVar 0) (aCons (eVar 3) (aCons (eVar 7) (aCons (eV (e3 fSlL (eVar 2) (oSome (eC (.int 4))) oNone)) aNil)))))))))))))
def F_Hall_hear : Fn := runB 2 8 b_Hall_hear
def b_Hall_told : EvS := (sSeq (sAsg (e2 fIx (eFld 3 0 (eVar 0)) (eFld 2 1 (eVar 2))) (gNm 3))
  (sSeq (sAsg (eV (fLst (aCons (eN fStr (aCons (eVar 1) aNil)) (aCons (eN fStr (aCons (eFld 2 0 (eVar 2)) aNil)) (aCons (eN fStr (aCons (eFld 2 2 (eVar 2)) aNil)) aNil))))) (gNm 4))
  (sSeq (sAsg (eIf (tOf (eIsN (eFld 2 3 (eVar 2)))) (eC .non) (eMt 0 AH.F_Pane_since (eVar 3) (aCons (eFld 2 3 (eVar 2)) aNil))) (gNm 5))
  (sSeq (sIf (tOf (eIsN (eVar 5))) (sRetF (e2 fCat (eV (e2 fCat (eV (e2 fCat (eV (fLst (aCons (eC (.str [119, 104, 111, 108, 101])) aNil))) (eVar 4))) (eV (fLst (aCons (eN fStr (aCons (eMt 0 AH.F_Pane_changes (eVar 3) aNil) aNil)) (aCons (eMt 0 AH.F_Pane_line (eVar 3) aNil) aNil)))))) (eMt 0 AH.F_Pane_rows (eVar 3) aNil))) sNext)
  (sSeq (sAsg (eV (e2 fCat (eV (e2 fCat (eV (fLst (aCons (eC (.str [115, 111, 109, 101])) aNil))) (eVar 4))) (eV (fLst (aCons (eN fStr (aCons (eFld 2 3 (eVar 2)) aNil)) aNil))))) (gNm 6))
  (sSeq (sFor (e3 fSlL (eVar 5) oNone (oSome (eC (.int 8)))) (gTp 2 (gsCons (gNm 7) (gsCons (gNm 8) gsNil))) (sAsg (eV (e2 fCat (eVar 6) (eV (fLst (aCons (eVar 7) (aCons (eVar 8) aNil)))))) (gNm 6)))
  (sRet (eVar 6))))))))
def F_Hall_told : Fn := runB 3 9 b_Hall_told
def b_Hall_letters : EvS := (sSeq (sAcc 1 (fLst aNil))
  (sSeq (sFor (eN fSortD (aCons (eFld 3 1 (eVar 0)) aNil)) (gNm 2) (sSeq (sAsg (e2 fDGet (eFld 3 1 (eVar 0)) (eVar 2)) (gNm 3))
  (sIf (tOf (eFld 2 4 (eVar 3))) (sApp 1 (eTup (aCons (eVar 2) (aCons (eN (callE AH.F_packed) (aCons (eMt 3 AH.F_Hall_told (eVar 0) (aCons (eVar 2) (aCons (eVar 3) aNil))) aNil)) aNil)))) sNext)))
  (sRetA 1)))
def F_Hall_letters : Fn := runB 1 4 b_Hall_letters
def b_Hall_typed : EvS := (sSeq (sIf (tNotE (tOf (eN (callE AH.F_is_number) (aCons (eVar 1) (aCons (eC (.int 0)) (aCons (e2 fSub (eN fLen (aCons (eFld 3 0 (eVar 0)) aNil)) (eC (.int 1))) aNil)))))) sNever sNext)
  (sRetF (fMt 0 AH.F_Pane_typed (e2 fIx (eFld 3 0 (eVar 0)) (eVar 1)) aNil)))
def F_Hall_typed : Fn := runB 2 2 b_Hall_typed
def b_Hall_looks : EvS := (sSeq (sAsg (eV (fLc (eN fSortD (aCons (eFld 3 1 (eVar 0)) aNil)) [2] (pNm 2) tYesE (eTup (aCons (eVar 2) (aCons (eFld 2 0 (e2 fDGet (eFld 3 1 (eVar 0)) (eVar 2))) (aCons (eFld 2 1 (e2 fDGet (eFld 3 1 (eVar 0)) (eVar 2))) aNil)))))) (gNm 1))
  (sRetF (fLc (iL (eVar 1)) [3] (pNm 3) (tOf (eFld 2 4 (e2 fDGet (eFld 3 1 (eVar 0)) (e2 fIx (eVar 3) (eC (.int 0)))))) (eVar 3))))
def F_Hall_looks : Fn := runB 1 4 b_Hall_looks
end
end AH
set_option maxRecDepth 100000
set_option maxHeartbeats 2000000
namespace AH
open PySem L2 TL
/-- an exception: the class's number, what it holds -/
inductive FlX where
  | ok (f : Fl)
  | ex (c : Nat) (v : List (Str × D))
abbrev EvX := Rho → Sto → Option (FlX × Rho × Sto)
/-- what a raise must leave: the class, what it holds, the world, the slots -/
abbrev MX := Nat → List (Str × D) → Wd → St → Prop
def PostX (M : MX) (K : PySem.W.Frag) (G : Gx) (w0 w : Wd) (D : Ends) (f : FlX) (ρ' : Rho) (S' : Sto) : Prop := match f with
  | .ok g => Post K G w0 w D g ρ' S'
  | .ex c v => ∀ σ' w', w'.S = S' → Mv w w' → SR K G w0 w' σ' ρ' → M c v w' σ'
def SX (M : MX) (K : PySem.W.Frag) (G : Gx) (ts : TS) (run : EvX) : Prop := ∀ w0 w σ ρ f ρ' S', SR K G w0 w σ ρ → run ρ w.S = some (f, ρ', S') → ∀ D : Ends, PostX M K G w0 w D f ρ' S' → ts D σ w.H
section
variable {M : MX} {K : PySem.W.Frag} {G : Gx} {w0 w w' : Wd} {σ : St} {ρ : Rho} {t u : TS} {tt : TT} {et : EvT} {a b : EvX}
theorem PostX.from {D : Ends} {f : FlX} {ρ' : Rho} {S' : Sto} (p : PostX M K G w0 w D f ρ' S') (m : Mv w w') : PostX M K G w0 w' D f ρ' S' := by
  cases f with
  | ok g => exact Post.from (show Post K G w0 w D g ρ' S' from p) m
  | ex c v => exact fun σ' w2 e m2 s => p σ' w2 e (m.trans m2) s
def xL (a : EvS) : EvX := fun ρ S => (a ρ S).bind fun x => some (.ok x.1, x.2.1, x.2.2)
theorem sx_of {a : EvS} (h : SS K G t a) : SX M K G t (xL a) := fun w0 w σ ρ f ρ' S' s hh D p => by
  obtain ⟨⟨g, ρ1, S1⟩, h1, h2⟩ := bnd hh
  cases h2
  exact h w0 w σ ρ g _ _ s h1 D p
def xSeq (a b : EvX) : EvX := fun ρ S => (a ρ S).bind fun x => match x with
  | (.ok .nx, ρ1, S1) => b ρ1 S1
  | r => some r
theorem sx_seq (ha : SX M K G t a) (hb : SX M K G u b) : SX M K G (tSeq t u) (xSeq a b) := fun w0 w σ ρ f ρ' S' s h D p => by
  obtain ⟨⟨f1, ρ1, S1⟩, h1, h2⟩ := bnd h
  refine ha w0 w σ ρ f1 ρ1 S1 s h1 { D with nx := u D } ?_
  cases f1 with
  | ok f1 =>
    cases f1 with
    | nx =>
      intro σ' w' e m s'
      subst e
      exact hb w0 w' σ' ρ1 f ρ' S' s' h2 D (p.from m)
    | bk => cases h2; exact p
    | ct => cases h2; exact p
    | rt d => cases h2; exact p
    | rf ds => cases h2; exact p
  | ex c v => cases h2; exact p
def xIf (t : EvT) (a b : EvX) : EvX := fun ρ S => (t ρ S).bind fun x => if x.1 = true then a ρ x.2 else b ρ x.2
theorem sx_if (ht : STt K G tt et) (ha : SX M K G t a) (hb : SX M K G u b) : SX M K G (tIfS tt t u) (xIf et a b) := fun w0 w σ ρ f ρ' S' s h D p => by
  obtain ⟨⟨c, S1⟩, h1, h2⟩ := bnd h
  refine ht w σ ρ c S1 s.ok s.rs h1 _ fun w1 e1 f1 o1 => ?_
  subst e1
  cases c with
  | true => exact ha w0 w1 σ ρ f ρ' S' (s.step f1 o1) h2 D (p.from f1.mv)
  | false => exact hb w0 w1 σ ρ f ρ' S' (s.step f1 o1) h2 D (p.from f1.mv)
end
/-- the heap that is left by an exception that holds fs; d: its dict -/
def XR (K : PySem.W.Frag) (w : Wd) (fs : List (Str × D)) (d : Option Addr) (H' : Hp) : Prop :=
  (fs = [] ∧ d = none ∧ H' = w.H) ∨ ∃ (d0 : Addr) (ys : List (Str × V)), d = some d0 ∧ w.H d0 = none ∧ ys.map (·.1) = fs.map (·.1) ∧ RVs K w (ys.map (·.2)) (fs.map (·.2)) ∧ H' = upd w.H d0 (.xd ys)
theorem XR.mono {K : PySem.W.Frag} {w w2 : Wd} {fs : List (Str × D)} {d : Option Addr} {H' : Hp} (x : XR K w fs d H') (m : Mv w w2) (e : w2.H = w.H) : XR K w2 fs d H' := by
  rcases x with ⟨a, b, c⟩ | ⟨d0, ys, a, b, c, r, h⟩
  · exact .inl ⟨a, b, by rw [e]; exact c⟩
  · exact .inr ⟨d0, ys, a, by rw [e]; exact b, c, r.mono m, by rw [e]; exact h⟩
def KE (K : PySem.W.Frag) (G : Gx) (w : Wd) (c : Nat) (fs : List (Str × D)) (S' : Sto) (E : XK) : Prop := ∀ w' d H', w'.S = S' → Fr w w' → Ok K G w' → XR K w' fs d H' → E (.ref (G.cm c)) d H'
/-- what a body's raise must leave -/
def ME (K : PySem.W.Frag) (G : Gx) (E : XK) : MX := fun c fs w' _ => ∀ d H', XR K w' fs d H' → E (.ref (G.cm c)) d H'
inductive OutX where
  | ok (o : Out)
  | ex (c : Nat) (fs : List (Str × D))
abbrev FnX := List D → Sto → Option (OutX × Sto)
def KX (K : PySem.W.Frag) (G : Gx) (w : Wd) (o : OutX) (S' : Sto) (Q : VK) (E : XK) : Prop := match o with
  | .ok o => KO K G w o S' Q
  | .ex c fs => KE K G w c fs S' E
def spX (K : PySem.W.Frag) (G : Gx) (n : Nat) (F : FnX) : Sp := fun vs H Q E => ∃ (w : Wd) (ds : List D) (o : OutX) (S' : Sto), w.H = H ∧ vs.length = n ∧ Ok K G w ∧ RVs K w vs ds ∧ F ds w.S = some (o, S') ∧ KX K G w o S' Q E
def runX (n m : Nat) (b : EvX) : FnX := fun ds S => if ds.length = n then match b (rho0 m ds) S with
  | some (.ok .nx, _, S') => some (.ok (.v .non), S')
  | some (.ok (.rt d), _, S') => some (.ok (.v d), S')
  | some (.ok (.rf ds), _, S') => some (.ok (.f ds), S')
  | some (.ex c fs, _, S') => some (.ex c fs, S')
  | _ => none
  else none
theorem bodyX_ok {K : PySem.W.Frag} {G : Gx} {N : List Str} {n : Nat} {t : TS} {b : EvX} {vs : List V} {H : Hp} {Q : VK} {E : XK} (hs : SX (ME K G E) K G t b) (hn : n ≤ N.length) (h : spX K G n (runX n N.length b) vs H Q E) : t { nx := fun _ H' => Q .non H', rt := Q } (L2.start N vs) H := by
  obtain ⟨w, ds, o, S', rfl, hl, ok, r, hh, k⟩ := h
  unfold runX at hh
  split at hh
  · rename_i hd
    have sr : SR K G w w (L2.start N vs) (rho0 N.length ds) :=
      ⟨ok, rho0_rs r (by omega), fun _ _ e => e, fun _ _ e n => ⟨e, n⟩, fun _ _ _ e => e, fun a => ⟨.inl, fun z => z.elim id fun ⟨i, es, z, _⟩ => absurd z rho0_acc⟩, fun a ⟨i, es, z, _⟩ => absurd z rho0_acc, fun i j es fs a z => absurd z rho0_acc, ok.bh⟩
    cases e : b (rho0 N.length ds) w.S with
    | none => rw [e] at hh; cases hh
    | some z =>
      obtain ⟨fl, ρ', S1⟩ := z
      rw [e] at hh
      refine hs w w _ _ fl ρ' S1 sr e _ ?_
      cases fl with
      | ok fl =>
        cases fl with
        | nx =>
          cases hh
          intro σ' w' e' m s
          obtain ⟨q1, q2, q3⟩ := s.out
          exact k .non (w'.withB w.B) e' q1 q2 .non
        | rt d =>
          cases hh
          exact fun v w' e' f o r => k v w' e' f o r
        | rf es =>
          cases hh
          exact fun p us w' e' f n o hp r => k p us w' e' f n o hp r
        | bk => cases hh
        | ct => cases hh
      | ex c fs =>
        cases hh
        intro σ' w' e' m s d H' xr
        obtain ⟨q1, q2, q3⟩ := s.out
        exact k (w'.withB w.B) d H' e' q1 q2 (xr.mono q3 rfl)
  · cases hh
section
variable {K : PySem.W.Frag} {G : Gx} {E : XK} {c : Nat} {C : Addr} {f : Str} {te : TE} {ea : Ev}
def xRaise (c : Nat) : EvX := fun ρ S => some (.ex c [], ρ, S)
theorem sx_raise (hc : G.cm c = C) : SX (ME K G E) K G (fun _ σ H => (fun (_ : St) (H : Hp) (Q : XK) => Q (.ref C) none H) σ H fun cls d H' => E cls d H') (xRaise c) := fun w0 w σ ρ f ρ' S' s h D p => by
  cases h
  have q := p σ w rfl (Mv.refl _) s none w.H (.inl ⟨rfl, rfl, rfl⟩)
  rw [hc] at q
  exact q
end
end AH
set_option maxRecDepth 100000
set_option maxHeartbeats 2000000
namespace AH
open PySem PySem.Spec PyProof.Rows L2 TL
end AH
set_option maxRecDepth 100000
set_option maxHeartbeats 2000000
namespace AH
open PySem L2 TL
/-- the store at a law's entry: its tables -/
def Sto.tabs (tl : List (Nat × Str)) : Sto := ⟨tl.length, fun l => tl[l]?.map fun p => .tab p.1 p.2⟩
inductive VX where
  | ok (d : D) | ex (c : Nat) (fs : List (Str × D))
abbrev EvV := Rho → Sto → Option (VX × Sto)
def KV (K : PySem.W.Frag) (G : Gx) (w : Wd) (o : VX) (S' : Sto) (Q : VK) (E : XK) : Prop := match o with
  | .ok d => Kd K G w d S' Q
  | .ex c fs => KE K G w c fs S' E
def SEX (E : XK) (K : PySem.W.Frag) (G : Gx) (te : TE) (run : EvV) : Prop := ∀ w σ ρ o S', Ok K G w → RS K w σ ρ → run ρ w.S = some (o, S') → ∀ Q, KV K G w o S' Q E → te σ w.H Q
def vL (e : Ev) : EvV := fun ρ S => (e ρ S).bind fun x => some (.ok x.1, x.2)
def vRes (r : Option (OutX × Sto)) : Option (VX × Sto) := r.bind fun z => match z.1 with
  | .ok (.v d) => some (.ok d, z.2)
  | .ok (.f es) => some (.ok (.lst es), z.2)
  | .ex c fs => some (.ex c fs, z.2)
def vMt (c : Nat) (F : FnX) (eo : EvV) (el : EvL) : EvV := fun ρ S => (eo ρ S).bind fun x => match x.1 with
  | .ok (.ref l) => match x.2.get l with
    | some (.ins c' _) => if c' = c then (el ρ x.2).bind fun y => vRes (F (.ref l :: y.1) y.2) else none
    | _ => none
  | .ex c fs => some (.ex c fs, x.2)
  | _ => none
section
variable {K : PySem.W.Frag} {G : Gx} {E : XK} {w w1 : Wd} {te to : TE} {ta : TA} {el : EvL} {S' : Sto} {Q : VK} {C : Addr} {n c : Nat} {F : FnX} {m : Str}
theorem KE.from {c : Nat} {fs : List (Str × D)} (k : KE K G w c fs S' E) (f : Fr w w1) : KE K G w1 c fs S' E := fun w' d H' e f' o x => k w' d H' e (f.trans f') o x
theorem KV.from {o : VX} (k : KV K G w o S' Q E) (f : Fr w w1) : KV K G w1 o S' Q E := by
  cases o with
  | ok d => exact Kd.from (show Kd K G w d S' Q from k) f
  | ex c fs => exact KE.from (show KE K G w c fs S' E from k) f
theorem sex_of {ea : Ev} (h : SE K G te ea) : SEX E K G te (vL ea) := fun w σ ρ o S' ok rs hh Q k => by
  obtain ⟨⟨d, S1⟩, h1, h2⟩ := bnd hh
  cases h2
  exact h w σ ρ d _ ok rs h1 Q k
theorem vres {r : Option (OutX × Sto)} {o : VX} (h : vRes r = some (o, S')) (ok : Ok K G w) (k : KV K G w o S' Q E) : ∃ z S2, r = some (z, S2) ∧ KX K G w z S2 Q E := by
  obtain ⟨⟨z, S2⟩, h1, h2⟩ := bnd h
  refine ⟨z, S2, h1, ?_⟩
  cases z with
  | ok q =>
    cases q with
    | v d => cases h2; exact k
    | f es => cases h2; exact Kf.of k ok
  | ex c fs => cases h2; exact k
theorem KX.from {o : OutX} (k : KX K G w o S' Q E) (f : Fr w w1) (ok : Ok K G w1) : KX K G w1 o S' Q E := by
  cases o with
  | ok q =>
    cases q with
    | v d => exact Kd.from (show Kd K G w d S' Q from k) f
    | f es => exact Kf.from (show Kf K G w es S' Q from k) f ok
  | ex c fs => exact KE.from (show KE K G w c fs S' E from k) f
theorem runX_len {n m : Nat} {b : EvX} : ∀ ds S r, runX n m b ds S = some r → ds.length = n := fun ds S r h => by
  unfold runX at h
  split at h
  · rename_i e
    exact e
  · cases h
theorem spX_len {n : Nat} {F : FnX} : ∀ (vs : List V) (H : Hp) (Q : VK) (E : XK), spX K G n F vs H Q E → vs.length = n := fun vs H Q E h => let ⟨_, _, _, _, _, hl, _⟩ := h; hl
/-- what is asked of a callee by name -/
def SpLike (K : PySem.W.Frag) (G : Gx) (sp : Sp) (n : Nat) (F : FnX) (E : XK) (E2 : XK) : Prop := ∀ w ds vs o S' Q, Ok K G w → RVs K w vs ds → vs.length = n → F ds w.S = some (o, S') → KX K G w o S' Q E → sp vs w.H Q E2
theorem like_x : SpLike K G (spX K G n F) n F E E := fun w ds vs o S' Q ok r hl h k => ⟨w, ds, o, S', rfl, hl, ok, r, h, k⟩
theorem sex_meth0 {sp : Sp} {E2 : XK} {eo : EvV} (hs : SpLike K G sp n F E E2) (hc : G.cm c = C) (hm : m ∉ G.fl c) (hn : ∀ ds S r, F ds S = some r → ds.length = n) (ho : SEX E K G to eo) (ha : SA K G ta el) : SEX E K G (tMeth C m sp [] E2 to ta) (vMt c F eo el) := fun w σ ρ o S' ok rs h Q k => by
  obtain ⟨⟨x, S1⟩, h1, h2⟩ := bnd h
  dsimp only at h2
  refine ho w σ ρ x S1 ok rs h1 _ ?_
  cases x with
  | ex c fs => cases h2; exact k
  | ok d =>
    cases d with
    | ref l =>
      dsimp only at h2
      intro v w1 e1 f1 o1 r1
      subst e1
      split at h2
      · rename_i c' fs g
        split at h2
        · rename_i e
          subst e
          obtain ⟨⟨ds, S2⟩, h3, h4⟩ := bnd h2
          obtain ⟨a, ox, gs, rfl, i1, i2, i3, i4, i5⟩ := o1.inst r1 g
          refine ⟨a, ox, gs, rfl, by rw [← hc]; exact i2, lookup_none ?_, ?_⟩
          · rw [i3]
            exact fun q => hm (List.mem_of_mem_take q)
          refine ha w1 σ ρ ds S2 o1 (rs.fr ok f1) h3 _ fun vs w2 e2 f2 o2 r2 => ?_
          subst e2
          rw [List.append_nil]
          obtain ⟨z, S3, h5, h6⟩ := vres h4 o2 (k.from (f1.trans f2))
          refine hs w2 (.ref l :: ds) _ z S3 Q o2 (.cons (r1.mono f2.mv) r2) ?_ h5 h6
          have := hn _ _ _ h5
          rw [List.length_cons, r2.length]
          exact this
        · cases h2
      · cases h2
    | _ => cases h2
theorem sex_meth {eo : EvV} (hc : G.cm c = C) (hm : m ∉ G.fl c) (hn : ∀ ds S r, F ds S = some r → ds.length = n) (ho : SEX E K G to eo) (ha : SA K G ta el) : SEX E K G (tMeth C m (spX K G n F) [] E to ta) (vMt c F eo el) := sex_meth0 like_x hc hm hn ho ha
end
end AH
set_option maxRecDepth 100000
set_option maxHeartbeats 2000000
namespace AH
open PySem PySem.Spec PyProof.Rows L2 TL Classical
/-- what is wished of an exception of the lambda -/
def Etold (K : PySem.W.Frag) (CS : Addr) (i n : Nat) (ts : Addr → Value → Option Addr → TS) (Q : VK) : XK := fun cls d H' =>
  PySem.W.exmOne K cls (.ref CS) = some true ∧ ∀ a, H' a = none → ∀ σ : L2.St, σ.length = n → ts a cls d { nx := fun _ H2 => Q .non H2, rt := Q } (σ.set i (some (.ref a))) H'
def TTold2 (K : PySem.W.Frag) (CS : Addr) (i n : Nat) (ts : Addr → Value → Option Addr → TS) : (XK → Hp → VK → Prop) → Hp → VK → Prop := fun tl H Q => tl (Etold K CS i n ts Q) H Q
/-- what the making of a lambda leaves of the heap -/
def LamH (q : Str) (P : Addr) (ps : Array Value) (H H1 : Hp) : Prop := H1 = H ∨ ∃ (k : Addr) (more : Array Value), H k = none ∧ H1 = upd (upd H P (.tbl (ps ++ more))) k (LamX.CodeO k q) ∧ TriplesOk (ps ++ more).toList ∧
  ∀ (pos : Pos) (cv : Value), codeAmong pos (ps ++ more).toList = some cv → codeAmong pos ps.toList = some cv ∨ cv = .ref k
/-- the table at P, its codes -/
def TabP (H : Hp) (P : Addr) (q : Str) (ps : Array Value) : Prop := H P = some (.tbl ps) ∧ TriplesOk ps.toList ∧ ∀ (p : Pos) (v : Value), codeAmong p ps.toList = some v → ∃ b, v = .ref b ∧ H b = some (LamX.CodeO b q)
section
variable {K : PySem.W.Frag} {G : Gx}
theorem lam_step {w : Wd} {l t : Nat} {q : Str} (hl : w.S.get l = some (.tab t q)) (o : Ok K G w) : ∃ ps, TabP w.H (G.tm t) q ps ∧ ∀ H1, LamH q (G.tm t) ps w.H H1 → Fr w { w with H := H1 } ∧ Ok K G { w with H := H1 } := by
  obtain ⟨a, ia, ⟨⟨ea, em⟩, ps, e1, e2, e3⟩⟩ := o.obj l _ hl
  subst ea
  refine ⟨ps, ⟨e1, e2, fun p v h => let ⟨b, h1, h2, _⟩ := e3 p v h; ⟨b, h1, h2⟩⟩, fun H1 lh => ?_⟩
  rcases lh with rfl | ⟨k, more, nk, rfl, tr, cs⟩
  · exact ⟨Fr.refl w, o⟩
  have nU : ¬ w.U k := fun z => by
    obtain ⟨x, hx⟩ := o.uh z
    rw [nk] at hx
    cases hx
  have nE : ¬ w.Ex k := o.fresh nk
  have pk : G.tm t ≠ k := ne_of_none e1 nk
  have at_ : ∀ b, b ≠ G.tm t → b ≠ k → upd (upd w.H (G.tm t) (.tbl (ps ++ more))) k (LamX.CodeO k q) b = w.H b := fun b h1 h2 => by rw [upd_ne h2, upd_ne h1]
  have ff : Fr w { w with H := upd (upd w.H (G.tm t) (.tbl (ps ++ more))) k (LamX.CodeO k q) } := by
    refine ⟨fun _ _ e => e, fun b u e n => ⟨?_, n⟩, fun b u z e => ?_, rfl⟩
    · show upd _ k _ b = _
      rw [at_ b (fun z => n ⟨l, by rw [z]; exact ia⟩) (ne_of_none e nk)]
      exact e
    · show upd _ k _ b = _
      rw [at_ b (fun z => by rw [z, e1] at e; cases e) (ne_of_none e nk)]
      exact e
  refine ⟨ff, fun l2 u e => ?_, o.inj, o.dom, o.nxt, o.dis, fun b hb => ?_, fun b ps2 e => ?_, fun b φ hb => ?_, fun c ob e => by
    have z := o.ce c ob e
    show upd _ k _ c = _
    rw [at_ c (fun y => by rw [y, e1] at z; cases z) (ne_of_none z nk)]
    exact z⟩
  · obtain ⟨b, h1, h2⟩ := o.obj l2 u e
    refine ⟨b, h1, ?_⟩
    by_cases hbp : b = G.tm t
    · rw [hbp] at h1 h2 ⊢
      have el := o.inj _ _ _ h1 ia
      rw [el, hl] at e
      cases e
      refine ⟨⟨rfl, em⟩, ps ++ more, ?_, tr, fun p v hv => ?_⟩
      · show upd _ k _ _ = _
        rw [upd_ne pk, upd_same]
      · rcases cs p v hv with hv | hv
        · obtain ⟨c, c1, c2, c3⟩ := e3 p v hv
          exact ⟨c, c1, ff.mv.hp c _ c2 c3⟩
        · refine ⟨k, hv, ?_, nE⟩
          show upd _ k _ k = _
          rw [upd_same]
    · obtain ⟨x, hx⟩ := h2.some
      exact h2.mono ff.mv (at_ b hbp (ne_of_none hx nk))
  · obtain ⟨x, hx⟩ := o.bh b hb
    exact ⟨x, (ff.hp b x hx (o.dis b hb)).1⟩
  · have e : upd (upd w.H (G.tm t) (.tbl (ps ++ more))) k (LamX.CodeO k q) b = some (.tbl ps2) := e
    by_cases h1 : b = k
    · rw [h1, upd_same] at e
      exact absurd (Option.some.inj e) (LamX.codeO_ne ps2)
    · by_cases h2 : b = G.tm t
      · exact ⟨l, by rw [h2]; exact ia⟩
      · rw [at_ b h2 h1] at e
        exact o.tb b ps2 e
  · obtain ⟨x, hx⟩ := o.bh b hb
    show upd _ k _ b ≠ _
    rw [at_ b (fun z => o.dis b hb ⟨l, by rw [z]; exact ia⟩) (ne_of_none hx nk)]
    exact o.bx b φ hb
/-- the except suite answers as res says -/
def Suite (K : PySem.W.Frag) (G : Gx) (CS : Addr) (i n : Nat) (ts : Addr → Value → Option Addr → TS) (res : Nat → List (Str × D) → Option D) : Prop := ∀ c fs d0, res c fs = some d0 → PySem.W.exmOne K (.ref (G.cm c)) (.ref CS) = some true ∧
  ∀ (w : Wd) (d : Option Addr) (H' : Hp) (a : Addr) (σ : L2.St) (Q : VK), Ok K G w → XR K w fs d H' → σ.length = n → Kd K G w d0 w.S Q → ts a (.ref (G.cm c)) d { nx := fun _ H2 => Q .non H2, rt := Q } (σ.set i (some (.ref a))) H'
end
end AH
set_option maxRecDepth 100000
set_option maxHeartbeats 2000000
namespace AH
open PySem PySem.Spec PyProof.Rows L2 TL
def rIsX (K : PySem.W.Frag) (cls : Value) (d : Option Addr) (a : Addr) : List V → Hp → VK → Prop := fun xs H Q => ∃ (C : Addr) (c : V) (cv : Value) (b : Bool), cls = .ref C ∧ ExcC K C ∧ (∀ dd, d = some dd → ∃ fs, H dd = some (.xd fs)) ∧ xs = [.ref a, c] ∧ (∀ u, RelV c u → u = cv) ∧
  PySem.W.kitOne K (.ref C) cv = some b ∧ Q (.bl b) H
theorem call_isX {X : Cx} {a : Addr} {cls : Value} {d : Option Addr} {oe : Obj} {pn : List (Addr × Obj)} (K : PySem.W.Frag) (hz : Zc cls d oe) (hf : ∃ vs, oe.data = .fields vs) (hK : X.K = K := by rfl) : CallR (X.suite a ((a, oe) :: pn)) (.builtin "isinstance") (rIsX K cls d a) := by
  subst hK
  intro pins s σ H xs us Q I r h
  obtain ⟨C, c, cv, b, rfl, T, hd, rfl, hcv, e, q⟩ := h
  obtain ⟨vs, hv⟩ := hf
  cases r with
  | cons rx rr =>
    cases rr with
    | cons rt rr =>
      cases rr
      cases rx
      have ec := hcv _ rt
      subst ec
      have hget := (I.pin (a, oe) (List.mem_append.mpr (.inl List.mem_cons_self))).1
      have J : ∃ od, PySem.W.InstAt s.heap a oe C od := by
        cases d with
        | none => exact ⟨none, hget, hz.1, by unfold PySem.W.notCls; rw [hv] <;> rfl, by rw [hz.2]; trivial⟩
        | some dd =>
          obtain ⟨fs, ef⟩ := hd dd rfl
          have hx : ObjOk X.prog X.w H s.heap dd (.xd fs) := I.hok dd _ ef
          obtain ⟨mA, hns, hr⟩ := hx
          obtain ⟨od, ho, hl⟩ := lookIn_ns hns
          exact ⟨some od, hget, hz.1, by unfold PySem.W.notCls; rw [hv] <;> rfl, by rw [hz.2]; exact ho⟩
      obtain ⟨od, J⟩ := J
      have hcl : (PySem.W.clsIn X.K C).isSome = true := by
        obtain ⟨cd, hc, _⟩ := PySem.W.any_some T.hd
        rw [hc]
        rfl
      exact PySem.W.kia_one (PySem.W.kitx_exc hcl T.hg T.hk T.hs T.ha T.hn T.ht T.hm) I.kIn J e (fun z => nomatch z) fun tk => ⟨.bl b, H, I.kept (t' := tk) fun _ _ z => z, rfl, q⟩
theorem peXf (K : PySem.W.Frag) {X : Cx} {a C : Addr} {oe : Obj} {cls : Value} {d : Option Addr} {pn : List (Addr × Obj)} {e : Expr} {te : TE} {pos : Pos} {n : Str} (T : XfC K C) (hno : PySem.W.findIn K (.ref C) n = some none) (hz : Zc cls d oe) (hf : ∃ vs, oe.data = .fields vs)
    (he : PE (X.suite a ((a, oe) :: pn)) e te) (hK : X.K = K := by rfl) (hb : attributeBase e n X.env (eval e X.env) = eval e X.env := by rfl) : PE (X.suite a ((a, oe) :: pn)) (.Attribute e n pos) (tXf a cls d C n te) := by
  subst hK
  exact pe_xf T hno hz hf he hb
def eIsX (a : Addr) (d : Option Addr) (b : Bool) (i : Nat) : Ev := fun ρ S => match ρ[i]? with
  | some (.val (.exn a' d' _ _)) => if a' = a ∧ d' = d then some (.bl b, S) else none
  | _ => none
def eXf (a : Addr) (d : Option Addr) (b : Bool) (i : Nat) (f : Str) : Ev := fun ρ S => match ρ[i]? with
  | some (.val (.exn a' d' ns vs)) => if b = true ∧ a' = a ∧ d' = d ∧ d.isSome = true then ((ns.zip vs).lookup f).map fun x => (x, S) else none
  | _ => none
def boolsOf : List D → Option (List Bool)
  | [] => some []
  | .bl b :: r => (boolsOf r).map (b :: ·)
  | _ => none
def fCntB (x : D) (ys : List D) (S : Sto) : Option (D × Sto) := match x, ys with
  | .lst ds, [.bl b] => (boolsOf ds).map fun bs => (.int (bs.countP fun z => z == b : Nat), S)
  | _, _ => none
def eBMV (f : D → List D → Sto → Option (D × Sto)) (eo : Ev) (el : EvL) : Ev := fun ρ S => (eo ρ S).bind fun x => match x.1 with
  | .lst _ => (el ρ x.2).bind fun y => f x.1 y.1 y.2
  | _ => none
/-- xs.count(b) of flat ones -/
def rCntF (K : PySem.W.Frag) : V → List V → Hp → VK → Prop := fun x xs H Q => ∃ (p : Addr) (ys : List V) (y : V), x = .ref p ∧ xs = [y] ∧ SqL K H p ys ∧ flatV y = true ∧ ys.all flatV = true ∧ Q (.int (ys.countP fun z => eqV z y : Nat)) H
theorem cntF_eq {y : V} {u : Value} : ∀ {ys : List V} {us : List Value}, Vals ys us → ys.all flatV = true → us.countP (eqU y) = ys.countP fun z => eqV z y
  | _, _, .nil, _ => rfl
  | z :: ys, v :: us, .cons r t, f => by
    rw [List.all_cons, Bool.and_eq_true] at f
    rw [List.countP_cons, List.countP_cons, cntF_eq (u := u) t f.2, eqU_of r f.1]
theorem mt_cntF {X : Cx} (K : PySem.W.Frag) (hK : X.K = K := by rfl) : MtR X "list.count" (rCntF K) := by
  subst hK
  intro pins s σ H x xs v us Q I rx rxs h
  obtain ⟨p, ys, y, rfl, rfl, hs, fy, fys, q⟩ := h
  cases rx
  obtain ⟨u, rfl, ru⟩ := rxs.one
  obtain ⟨its, rv, ⟨⟨cls, dd, data, sl⟩, n, ho, hc, hdn, hd⟩, hlen⟩ := I.list hs
  simp only at hc hd
  subst hc hd
  refine call_meets PySem.F.slot_list_count ⟨_, ho, rfl⟩ PySem.F.entry_list_count (PySem.F.args_list_count_2 _ _) (SeqAt.list_countAt p its.toArray n dd sl u (eqU y)) ⟨ho, fun z hz => mem_eqAt ru fy rv fys z (by simpa using hz), ?_⟩
  have e : its.toArray.toList.countP (eqU y) = ys.countP fun z => eqV z y := cntF_eq (u := u) rv fys
  refine ⟨.int (ys.countP fun z => eqV z y : Nat), H, I.tok _, ⟨s.toks, ?_⟩, q⟩
  rw [← e]
section
variable {K : PySem.W.Frag} {G : Gx}
theorem se_bmV {r : V → List V → Hp → VK → Prop} {f : D → List D → Sto → Option (D × Sto)} {to : TE} {ta : TA} {eo : Ev} {el : EvL} (hr : SM K G r f) (ho : SE K G to eo) (ha : SA K G ta el) : SE K G (tBM K "list" r to ta) (eBMV f eo el) := fun w σ ρ d S' o rs h Q k => by
  obtain ⟨⟨dx, S1⟩, h1, h2⟩ := bnd h
  refine ho w σ ρ dx S1 o rs h1 _ fun x w1 e1 f1 o1 r1 => ?_
  subst e1
  dsimp only at h2
  split at h2
  · rename_i es
    obtain ⟨⟨ds, S2⟩, h3, h4⟩ := bnd h2
    refine ⟨?_, ha w1 σ ρ ds S2 o1 (rs.fr o f1) h3 _ fun xs w2 e2 f2 o2 r2 => ?_⟩
    · cases r1 with
      | lst q _ _ => exact ty_list q
    · subst e2
      exact hr w2 x _ xs ds d S' o2 (r1.mono f2.mv) r2 h4 Q (Kd.from k (f1.trans f2))
  · cases h2
theorem bools_rv {w : Wd} : ∀ {ds : List D} {bs : List Bool} {vs : List V}, boolsOf ds = some bs → RVs K w vs ds → vs = bs.map V.bl
  | [], bs, vs, h, r => by
    cases h
    cases r
    rfl
  | .bl b :: ds, bs, vs, h, r => by
    unfold boolsOf at h
    cases e : boolsOf ds with
    | none => rw [e] at h; cases h
    | some bs' =>
      rw [e] at h
      cases h
      cases r with
      | cons r1 r2 =>
        cases r1
        rw [bools_rv e r2]
        rfl
theorem sm_cntB : SM K G (rCntF K) fCntB := fun w x dx xs ds d S' o rx rxs hh Q k => by
  unfold fCntB at hh
  split at hh
  · rename_i es b
    cases e : boolsOf es with
    | none => rw [e] at hh; cases hh
    | some bs =>
      rw [e] at hh
      cases hh
      obtain ⟨v, rfl, r1⟩ := rxs.one_of
      cases r1
      cases rx with
      | lst q1 q2 q3 =>
        rename_i a vs
        have ev := bools_rv e q3
        subst ev
        refine ⟨a, bs.map V.bl, .bl b, rfl, rfl, SqL.of q1, rfl, ?_, ?_⟩
        · rw [List.all_map]
          exact List.all_eq_true.mpr fun z _ => rfl
        · have ec : (bs.map V.bl).countP (fun z => eqV z (.bl b)) = bs.countP fun z => z == b := by
            rw [List.countP_map]
            exact congrArg (fun q => bs.countP q) (funext fun z => by cases z <;> cases b <;> rfl)
          rw [ec]
          exact Kd.now k o .int
  · cases hh
theorem se_isX {c i : Nat} {a : Addr} {d : Option Addr} {cv : Value} {vv : V} {b : Bool} (T : ExcC K (G.cm c)) (hk : PySem.W.kitOne K (.ref (G.cm c)) cv = some b) (hv : ∀ u, RelV vv u → u = cv) : SE K G (tCB (rIsX K (.ref (G.cm c)) d a) (tCons (tVar i) (tCons (tC vv) tNil))) (eIsX a d b i) := fun w σ ρ x S' o rs h Q k => by
  unfold eIsX at h
  split at h
  · rename_i a' d' ns vs e
    split at h
    · rename_i hh
      obtain ⟨rfl, rfl⟩ := hh
      cases h
      obtain ⟨v, h1, h2⟩ := rs.val i _ e
      refine ⟨v, h1, ?_⟩
      refine ⟨G.cm c, vv, cv, b, rfl, T, fun dd e2 => ?_, ?_, hv, hk, Kd.now k o .bl⟩
      · subst e2
        cases h2 with
        | exd z1 z2 z3 => exact ⟨_, z1⟩
      · cases h2 <;> rfl
    · cases h
  · cases h
theorem lk_rv {w : Wd} {f : Str} {d0 : D} : ∀ {ys : List (Str × V)} {ds : List D}, RVs K w (ys.map (·.2)) ds → ((ys.map (·.1)).zip ds).lookup f = some d0 → ∃ v, ys.lookup f = some v ∧ RV K w v d0
  | [], _, _, h => by simp at h
  | (n, y) :: ys, ds, r, h => by
    cases r with
    | cons r1 r2 =>
      rename_i d ds'
      have h' : (match f == n with | true => some d | false => ((ys.map (·.1)).zip ds').lookup f) = some d0 := h
      show ∃ v, (match f == n with | true => some y | false => ys.lookup f) = some v ∧ _
      cases e : f == n with
      | true =>
        rw [e] at h'
        cases h'
        exact ⟨y, rfl, r1⟩
      | false =>
        rw [e] at h'
        exact lk_rv r2 h'
theorem se_xf {c i : Nat} {a C : Addr} {d : Option Addr} {b : Bool} {f : Str} (hc : b = true → G.cm c = C) : SE K G (tXf a (.ref (G.cm c)) d C f (tVar i)) (eXf a d b i f) := fun w σ ρ x S' o rs h Q k => by
  unfold eXf at h
  split at h
  · rename_i a' d' ns vs e
    split at h
    · rename_i hh
      obtain ⟨hb, rfl, rfl, hs⟩ := hh
      cases el : (ns.zip vs).lookup f with
      | none => rw [el] at h; cases h
      | some d0 =>
        rw [el] at h
        cases h
        obtain ⟨v, h1, h2⟩ := rs.val i _ e
        cases h2 with
        | ex0 => cases hs
        | exd z1 z2 z3 =>
          obtain ⟨u, l1, l2⟩ := lk_rv z3 el
          exact ⟨_, h1, rfl, by rw [hc hb], _, _, u, rfl, z1, l1, Kd.now k o l2⟩
    · cases h
  · cases h
def rhoE (n i : Nat) (x : D) : Rho := (List.replicate n Sl.no).set i (.val x)
theorem rhoE_at {n i j : Nat} {x : D} {s : Sl} (h : (rhoE n i x)[j]? = some s) : (j = i ∧ s = .val x) ∨ s = .no := by
  unfold rhoE at h
  rw [List.getElem?_set] at h
  split at h
  · rename_i e
    split at h
    · cases h
      exact .inl ⟨e.symm, rfl⟩
    · cases h
  · rw [List.getElem?_replicate] at h
    split at h
    · cases h
      exact .inr rfl
    · cases h
theorem suite_ok {CS : Addr} {i n : Nat} {ts : Addr → Value → Option Addr → TS} {res : Nat → List (Str × D) → Option D} {b : Nat → Addr → Option Addr → EvS} (hi : i < n) (hs : ∀ c a d fs d0, res c fs = some d0 → SS K G (ts a (.ref (G.cm c)) d) (b c a d))
    (he : ∀ c fs d0, res c fs = some d0 → PySem.W.exmOne K (.ref (G.cm c)) (.ref CS) = some true)
    (hb : ∀ c fs d0 a d S, res c fs = some d0 → (fs ≠ [] → d.isSome = true) → ∃ ρ', b c a d (rhoE n i (.exn a d (fs.map (·.1)) (fs.map (·.2)))) S = some (.rt d0, ρ', S)) : Suite K G CS i n ts res := fun c fs d0 hr => by
  refine ⟨he c fs d0 hr, fun w d H' a σ Q o xr hl k => ?_⟩
  have main : ∀ w2 : Wd, w2.H = H' → w2.S = w.S → Fr w w2 → Ok K G w2 → RV K w2 (.ref a) (.exn a d (fs.map (·.1)) (fs.map (·.2))) → (fs ≠ [] → d.isSome = true) → ts a (.ref (G.cm c)) d { nx := fun _ H2 => Q .non H2, rt := Q } (σ.set i (some (.ref a))) H' := fun w2 eH eS f2 o2 r2 hd => by
    subst eH
    obtain ⟨ρ', hrun⟩ := hb c fs d0 a d w2.S hr hd
    have nac : ∀ (j : Nat) (es : List D), (rhoE n i (.exn a d (fs.map (·.1)) (fs.map (·.2))))[j]? ≠ some (.acc es) := fun j es z => by
      rcases rhoE_at z with ⟨_, q⟩ | q <;> cases q
    have sr : SR K G w2 w2 (σ.set i (some (.ref a))) (rhoE n i (.exn a d (fs.map (·.1)) (fs.map (·.2)))) := by
      refine ⟨o2, ⟨?_, fun j x z => ?_, fun j es z => absurd z (nac j es)⟩, fun _ _ e => e, fun _ _ e n => ⟨e, n⟩, fun _ _ _ e => e, fun b => ⟨.inl, fun z => z.elim id fun ⟨j, es, z, _⟩ => absurd z (nac j es)⟩, fun b ⟨j, es, z, _⟩ => absurd z (nac j es), fun j j2 es fs b z => absurd z (nac j es), o2.bh⟩
      · unfold rhoE
        simp [hl]
      · rcases rhoE_at z with ⟨rfl, q⟩ | q
        · cases q
          exact ⟨.ref a, by rw [List.getElem?_set_self (by omega)], r2⟩
        · cases q
    refine hs c a d fs d0 hr w2 w2 _ _ _ ρ' _ sr hrun _ fun v w' e f o' r => ?_
    exact k v w' (e.trans eS) (f2.trans f) o' r
  rcases xr with ⟨rfl, rfl, rfl⟩ | ⟨dd, ys, rfl, hn, e1, r1, rfl⟩
  · exact main w rfl rfl (Fr.refl w) o .ex0 (fun z => absurd rfl z)
  · refine main (w.add dd (.xd ys)) rfl rfl (Fr.add hn) (o.add hn) ?_ fun _ => rfl
    rw [← e1]
    exact .exd upd_same (o.fresh hn) (r1.mono (Fr.add hn).mv)
end
end AH
set_option maxRecDepth 100000
set_option maxHeartbeats 2000000
namespace AH
open PySem PySem.Spec PyProof.Rows L2 TL
def fIdxB (x : D) (ys : List D) (S : Sto) : Option (D × Sto) := match x, ys with
  | .lst ds, [.bl b] => (boolsOf ds).bind fun bs => (bs.findIdx? fun z => z == b).map fun j => (.int (j : Nat), S)
  | _, _ => none
theorem mtIdx {X : Cx} (K : PySem.W.Frag) (hK : X.K = K := by rfl) : MtR X "list.index" (rIndex K) := by
  subst hK
  exact mt_index
def toldV (c : Nat) (fs : List (Str × D)) : Option D := match c, fs with
  | 100, [] => some (.tup [.str [66, 97, 100, 67, 111, 117, 110, 116], .int 0])
  | 101, [] => some (.tup [.str [66, 97, 100, 70, 105, 101, 108, 100, 115], .int 0])
  | 102, [] => some (.tup [.str [66, 97, 100, 76, 111, 111, 107], .int 0])
  | 103, [(n, x)] => if n = "place" then some (.tup [.str [66, 97, 100, 83, 105, 103, 110], x]) else none
  | 104, [] => some (.tup [.str [66, 97, 100, 83, 105, 122, 101], .int 0])
  | 105, [(n, x)] => if n = "row" then some (.tup [.str [66, 97, 100, 84, 101, 120, 116], x]) else none
  | 106, [] => some (.tup [.str [78, 111, 76, 111, 111, 107], .int 0])
  | _, _ => none
/-- what toldV answers of -/
theorem toldV_is {c : Nat} {fs : List (Str × D)} {d0 : D} (h : toldV c fs = some d0) : (c = 100 ∧ fs = [] ∧ d0 = .tup [.str [66, 97, 100, 67, 111, 117, 110, 116], .int 0]) ∨ (c = 101 ∧ fs = [] ∧ d0 = .tup [.str [66, 97, 100, 70, 105, 101, 108, 100, 115], .int 0]) ∨
    (c = 102 ∧ fs = [] ∧ d0 = .tup [.str [66, 97, 100, 76, 111, 111, 107], .int 0]) ∨ (c = 103 ∧ ∃ x, fs = [(("place" : Str), x)] ∧ d0 = .tup [.str [66, 97, 100, 83, 105, 103, 110], x]) ∨ (c = 104 ∧ fs = [] ∧ d0 = .tup [.str [66, 97, 100, 83, 105, 122, 101], .int 0]) ∨
    (c = 105 ∧ ∃ x, fs = [(("row" : Str), x)] ∧ d0 = .tup [.str [66, 97, 100, 84, 101, 120, 116], x]) ∨ (c = 106 ∧ fs = [] ∧ d0 = .tup [.str [78, 111, 76, 111, 111, 107], .int 0]) := by
  unfold toldV at h
  split at h
  · cases h; exact .inl ⟨rfl, rfl, rfl⟩
  · cases h; exact .inr (.inl ⟨rfl, rfl, rfl⟩)
  · cases h; exact .inr (.inr (.inl ⟨rfl, rfl, rfl⟩))
  · split at h
    · rename_i n x e
      cases h
      exact .inr (.inr (.inr (.inl ⟨rfl, x, by rw [e], rfl⟩)))
    · cases h
  · cases h; exact .inr (.inr (.inr (.inr (.inl ⟨rfl, rfl, rfl⟩))))
  · split at h
    · rename_i n x e
      cases h
      exact .inr (.inr (.inr (.inr (.inr (.inl ⟨rfl, x, by rw [e], rfl⟩)))))
    · cases h
  · cases h; exact .inr (.inr (.inr (.inr (.inr (.inr ⟨rfl, rfl, rfl⟩)))))
  · cases h
section
variable {K : PySem.W.Frag} {G : Gx}
theorem sm_idxB : SM K G (rIndex K) fIdxB := fun w x dx xs ds d S' o rx rxs hh Q k => by
  unfold fIdxB at hh
  split at hh
  · rename_i es b
    obtain ⟨bs, h1, h2⟩ := bnd hh
    cases e : bs.findIdx? (fun z => z == b) with
    | none => rw [e] at h2; cases h2
    | some j =>
      rw [e] at h2
      cases h2
      obtain ⟨v, rfl, r1⟩ := rxs.one_of
      cases r1
      cases rx with
      | lst q1 q2 q3 =>
        rename_i a vs
        have ev := bools_rv h1 q3
        subst ev
        obtain ⟨hj, hy, hno⟩ := List.findIdx?_eq_some_iff_getElem.mp e
        have eq : ∀ x y : Bool, eqV (.bl x) (.bl y) = (x == y) := fun x y => by cases x <;> cases y <;> rfl
        refine ⟨a, bs.map V.bl, .bl b, j, .bl bs[j], rfl, rfl, SqL.of q1, rfl, ?_, ?_, ?_, fun m z hm hz => ?_, Kd.now k o .int⟩
        · rw [List.all_map]
          exact List.all_eq_true.mpr fun z _ => rfl
        · rw [List.getElem?_map, List.getElem?_eq_getElem hj]
          rfl
        · rw [eq]
          exact hy
        · rw [List.getElem?_map] at hz
          cases e2 : bs[m]? with
          | none => rw [e2] at hz; cases hz
          | some z' =>
            rw [e2] at hz
            cases hz
            obtain ⟨hl, hz⟩ := List.getElem?_eq_some_iff.mp e2
            rw [eq, ← hz]
            exact Bool.eq_false_iff.mpr (hno m hm)
  · cases hh
/-- what is known of the class of the number c -/
structure ToldG (K : PySem.W.Frag) (G : Gx) (c : Nat) : Prop where
  e : ExcC K (G.cm c)
  m : PySem.W.exmOne K (.ref (G.cm c)) (.ref (He.ga K "HallError")) = some true
  v : PySem.W.kitOne K (.ref (G.cm c)) (.type "ValueError") = some true
  k : ∀ j x, kindsX[j]? = some x → PySem.W.kitOne K (.ref (G.cm c)) (.ref (He.ga K x)) = some (decide (c = 100 + j))
  f : ∀ j x, kindsX[j]? = some x → decide (c = 100 + j) = true → G.cm c = He.ga K x
theorem told_at (hG : ∀ j x, kindsX[j]? = some x → G.cm (100 + j) = He.ga K x) (E : ToldK K) {c : Nat} {fs : List (Str × D)} {d0 : D} (h : toldV c fs = some d0) : ToldG K G c := by
  have key : ∃ i, i < 7 ∧ c = 100 + i := by
    rcases toldV_is h with ⟨h, _⟩ | ⟨h, _⟩ | ⟨h, _⟩ | ⟨h, _⟩ | ⟨h, _⟩ | ⟨h, _⟩ | ⟨h, _⟩ <;> exact ⟨c - 100, by omega, by omega⟩
  obtain ⟨i, hi, rfl⟩ := key
  have hi : i < kindsX.length := hi
  have hx : kindsX[i]? = some kindsX[i] := List.getElem?_eq_getElem hi
  have hm : kindsX[i] ∈ kindsX := List.getElem_mem _
  have e := hG i _ hx
  refine ⟨by rw [e]; exact (E.c _ hm).1, by rw [e]; exact E.m _ hm, by rw [e]; exact E.v _ hm, fun j x hj => ?_, fun j x hj q => ?_⟩
  · rw [e, E.k _ hm x (List.mem_of_getElem? hj)]
    have nd : kindsX.Nodup := by decide +kernel
    obtain ⟨hjl, hjx⟩ := List.getElem?_eq_some_iff.mp hj
    congr 1
    have : (kindsX[i] = x) ↔ (100 + i = 100 + j) := by
      constructor
      · intro q
        have := (List.getElem_inj nd).mp (q.trans hjx.symm)
        omega
      · intro q
        have e2 : i = j := by omega
        subst e2
        exact hjx
    exact decide_eq_decide.mpr this
  · have : i = j := by
      have := of_decide_eq_true q
      omega
    subst this
    exact hG i x hj
end
/-- a def whose code object is known -/
theorem fun_okK {P : Program} {w : World} {K : PySem.W.Frag} {mg : Str → Option Value} {base : Heap} {CX : CXT} {x qual : Str} {pg : Arguments} {body : List Stmt} {scope : Scope} {dvs : List V} {kws : List (Str × V)} {f : Addr} {fd : FuncData} {N ps : List Str} {k : Nat} {sp : Sp} {p : He.Defn}
    (F : FunD K x qual pg body scope dvs kws f fd) (hp : He.fAd K p = f) (S : FnScope N ps scope) (len : ∀ vs H Q E, sp vs H Q E → vs.length = ps.length)
    (hbody : ∀ (A : Around) (outer : List Env) (s : Shared) (H : Hp) (vs : List V) (Q : VK) (E : XK), Room k (A.deeper (envOfC qual scope s.heap.objs.size f (.ref (He.codeOf K p)))) → sp vs H Q E →
      ∃ t, PSs (cxOf CX P w K mg base N qual scope f (.ref (He.codeOf K p)) A outer s H E) body t ∧ t { nx := fun _ H' => Q .non H', rt := Q } (L2.start N vs) H) : FnOk P w K mg base CX (k + 1) f fd ps sp := by
  obtain ⟨oc, od, dV, kV, doc, pm, an, cdv, ct, osl, rfl, lk, hcd, _, _⟩ := F.ex
  obtain ⟨c, rfl⟩ := He.codeIn_ref hcd
  have e : He.codeOf K p = c := He.codeOf_eq (by rw [hp]; exact lk) rfl
  rw [e] at hbody
  exact fn_of lk hcd S len fun A outer s H vs Q E hr h => hbody A outer s H vs Q E hr h
def suiteOf (st : Stmt) : List Stmt := match defBody st with
  | [.Try _ [.ExceptHandler _ _ b _] _ _ _] => b
  | _ => []
end AH
set_option maxRecDepth 100000
set_option maxHeartbeats 2000000
namespace AH
open PySem L2 TL
abbrev PX := FlX → Rho → Sto → Prop
def WQ (o : Option (FlX × Rho × Sto)) (P : PX) : Prop := ∃ f ρ S, o = some (f, ρ, S) ∧ P f ρ S
section
variable {S : Sto} {ρ : Rho} {P : PX}
theorem WQ.mono {o : Option (FlX × Rho × Sto)} {P' : PX} (h : WQ o P) (k : ∀ f ρ S, P f ρ S → P' f ρ S) : WQ o P' := by
  obtain ⟨f, r, S, e, p⟩ := h
  exact ⟨f, r, S, e, k f r S p⟩
def nxtX (b : EvX) (P : PX) : PX := fun f ρ S => match f with
  | .ok .nx => WQ (b ρ S) P
  | f => P f ρ S
theorem wx_seq {a b : EvX} (h : WQ (a ρ S) (nxtX b P)) : WQ (xSeq a b ρ S) P := by
  obtain ⟨f, ρ1, S1, e, p⟩ := h
  unfold xSeq
  rw [e]
  cases f with
  | ok f =>
    cases f with
    | nx => exact p
    | bk => exact ⟨_, _, _, rfl, p⟩
    | ct => exact ⟨_, _, _, rfl, p⟩
    | rt d => exact ⟨_, _, _, rfl, p⟩
    | rf d => exact ⟨_, _, _, rfl, p⟩
  | ex c v => exact ⟨_, _, _, rfl, p⟩
theorem wx_if {t : EvT} {a b : EvX} (h : W (t ρ S) fun c S1 => Br c (WQ (a ρ S1) P) (WQ (b ρ S1) P)) : WQ (xIf t a b ρ S) P := by
  obtain ⟨c, S1, e, p⟩ := h
  unfold xIf
  rw [e]
  cases c with
  | true => exact p.1 rfl
  | false => exact p.2 rfl
theorem wx_raise {c : Nat} (h : P (.ex c []) ρ S) : WQ (xRaise c ρ S) P := ⟨_, _, _, rfl, h⟩
def endX (P : OutX → Sto → Prop) : PX := fun f ρ S => match f with
  | .ok .nx => P (.ok (.v .non)) S
  | .ok (.rt d) => P (.ok (.v d)) S
  | .ok (.rf ds) => P (.ok (.f ds)) S
  | .ex c fs => P (.ex c fs) S
  | _ => False
theorem wx_run {n m : Nat} {b : EvX} {ds : List D} {P : OutX → Sto → Prop} (hl : ds.length = n) (h : WQ (b (rho0 m ds) S) (endX P)) : W (runX n m b ds S) P := by
  obtain ⟨f, ρ1, S1, e, p⟩ := h
  unfold runX
  rw [if_pos hl, e]
  cases f with
  | ok f =>
    cases f with
    | nx => exact w_ret p
    | bk => exact p.elim
    | ct => exact p.elim
    | rt d => exact w_ret p
    | rf d => exact w_ret p
  | ex c v => exact w_ret p
def outV : OutX → VX
  | .ok (.v d) => .ok d
  | .ok (.f es) => .ok (.lst es)
  | .ex c fs => .ex c fs
theorem wv_res {r : Option (OutX × Sto)} {P : VX → Sto → Prop} (h : W r fun z S1 => P (outV z) S1) : W (vRes r) P := by
  obtain ⟨z, S1, e, p⟩ := h
  unfold vRes
  rw [e]
  cases z with
  | ok o =>
    cases o with
    | v d => exact w_ret p
    | f d => exact w_ret p
  | ex c fs => exact w_ret p
theorem wv_L {e : Ev} {P : VX → Sto → Prop} (h : W (e ρ S) fun d S1 => P (.ok d) S1) : W (vL e ρ S) P := w_bind (h.mono fun _ _ q => w_ret q)
theorem wv_mt {c : Nat} {F : FnX} {eo : EvV} {el : EvL} {P : VX → Sto → Prop} (h : W (eo ρ S) fun o S1 => match o with
    | .ok x => ∃ l fs, x = .ref l ∧ S1.get l = some (.ins c fs) ∧ W (el ρ S1) fun ds S2 => W (F (.ref l :: ds) S2) fun z S3 => P (outV z) S3
    | .ex c fs => P (.ex c fs) S1) : W (vMt c F eo el ρ S) P := by
  refine w_bind (h.mono fun o S1 q => ?_)
  cases o with
  | ok x =>
    obtain ⟨l, fs, rfl, g, q⟩ := q
    dsimp only
    rw [g]
    dsimp only
    rw [if_pos rfl]
    exact w_bind (q.mono fun _ _ q => wv_res q)
  | ex c fs => exact w_ret q
end
end AH
set_option maxRecDepth 100000
set_option maxHeartbeats 2000000
namespace AH
open PySem L2 TL
def RfF (F : Fn) (G : FnX) : Prop := ∀ ds S o S1, F ds S = some (o, S1) → G ds S = some (.ok o, S1)
theorem RfF.w {F : Fn} {G : FnX} (h : RfF F G) {ds : List D} {S : Sto} {P : Out → Sto → Prop} (k : W (F ds S) P) : W (G ds S) fun z S1 => ∃ o, z = .ok o ∧ P o S1 := by
  obtain ⟨o, S1, e, p⟩ := k
  exact ⟨.ok o, S1, h _ _ _ _ e, o, rfl, p⟩
end AH
set_option maxRecDepth 100000
set_option maxHeartbeats 4000000
namespace AH
open PySem L2 TL
end AH
set_option maxRecDepth 100000
set_option maxHeartbeats 4000000
namespace AH
open PySem L2 TL
structure OL where
  d : Nat
  p : Nat
  a : Nat
  t : Nat
structure OV where
  rows : List (List Nat)
  line : List Nat
  job : Option (Nat × Nat)
  past : List (List Nat × List Nat)
  all : List (List (List Nat) × List Nat)
  typed : List D
def OV.chg (v : OV) (w t : List Nat) : OV := { v with rows := (ap (v.rows, v.line) (w, t)).1, line := (ap (v.rows, v.line) (w, t)).2, past := v.past ++ [(w, t)], all := v.all ++ [ap (v.rows, v.line) (w, t)] }
section
variable {S : Sto} {X Y A : Hm} {L : OL} {v : OV} {w t : List Nat}
def lmanyV (line : List Nat) : Nat := (countV line).getD 0
theorem count_two {line a b : List Nat} (h : splitC 32 line = [a, b]) : line = a ++ ([32] ++ b) := by
  have := join_split (c := 32) line
  rw [h] at this
  exact this.symm
end
end AH
set_option maxRecDepth 100000
set_option maxHeartbeats 4000000
namespace AH
open PySem L2 TL
def OV.row (v : OV) (line : List Nat) : OV := v.chg wRow ([62, 32] ++ line)
def OV.doL (v : OV) (line : List Nat) : OV :=
  let v1 := v.chg wRow ([62, 32] ++ line)
  let v2 := if line = [] then v1 else v1.chg wLine []
  if line = wClear then v2.chg wClear [] else if line = wStop ∧ v2.job ≠ none then { v2 with job := none } else if 0 < lmanyV line then { v2 with job := some (0, lmanyV line) } else if line = [] then v2 else v2.chg wRow (if line.take 4 = say4 then line.drop 4 else [63, 32] ++ line)
def OV.pt (v : OV) (c : Nat) : OV := if c = 59 then v.doL v.line else if c = 60 then (if v.line = [] then v else v.chg wLine (v.line.take (v.line.length - 1))) else if v.line.length < 30 then v.chg wLine (v.line ++ [c]) else v
def OV.press (v : OV) (nt : D) (c : Nat) : OV := OV.pt { v with typed := v.typed ++ [nt] } c
/-- what is always so of it; N: how much came at most -/
structure Og (v : OV) (N : Nat) : Prop where
  r1 : v.rows.length ≤ 40
  r2 : ∀ z ∈ v.rows, z.length ≤ 60 ∧ okS z
  l1 : v.line.length ≤ 30
  l2 : ∀ c ∈ v.line, c < 128
  j1 : ∀ a b, v.job = some (a, b) → a < b ∧ b ≤ 99
  pl : v.past.length ≤ N
  al : v.all.length = v.past.length + 1
theorem Og.chg {v : OV} {N : Nat} (g : Og v N) {w t : List Nat} (h1 : t.length ≤ 60 ∧ ∀ c ∈ t, c < 128) (h2 : w = wLine → t.length ≤ 30) : Og (v.chg w t) (N + 1) := by
  refine ⟨ap_len g.r1, fun z hz => ?_, ?_, ?_, g.j1, ?_, ?_⟩
  · have hz : z ∈ (ap (v.rows, v.line) (w, t)).1 := hz
    unfold ap at hz
    split at hz
    · exact g.r2 z hz
    · split at hz
      · cases hz
      · rcases List.mem_append.mp (lastN_mem hz) with q | q
        · exact g.r2 z q
        · rw [List.mem_singleton] at q
          rw [q]
          exact ⟨h1.1, okS_lt h1.2⟩
  · show (ap (v.rows, v.line) (w, t)).2.length ≤ 30
    unfold ap
    split
    · rename_i e
      exact h2 e
    · split <;> exact g.l1
  · show ∀ c ∈ (ap (v.rows, v.line) (w, t)).2, c < 128
    unfold ap
    split
    · exact h1.2
    · split <;> exact g.l2
  · show (v.past ++ [(w, t)]).length ≤ N + 1
    have := g.pl
    simp
    omega
  · show (v.all ++ [_]).length = (v.past ++ [(w, t)]).length + 1
    have := g.al
    simp
    omega
theorem Og.mono {v : OV} {N M : Nat} (g : Og v N) (h : N ≤ M) : Og v M := ⟨g.r1, g.r2, g.l1, g.l2, g.j1, Nat.le_trans g.pl h, g.al⟩
theorem Og.row {v : OV} {N : Nat} (g : Og v N) {t : List Nat} (h1 : t.length ≤ 60 ∧ ∀ c ∈ t, c < 128) : Og (v.chg wRow t) (N + 1) := g.chg h1 fun e => absurd e (by decide)
section
variable {S : Sto} {X Y A : Hm} {L : OL} {v : OV}
structure Cp (p : PV) (v : OV) : Prop where
  kept : p.kept = v.rows
  text : p.text = v.line
  work : p.work = v.job
  many : p.many = v.past.length
  past : p.past = lastN 30 v.past
  notes : p.notes = lastN 100 v.typed
theorem Cp.chg {p : PV} {v : OV} (c : Cp p v) (w t : List Nat) : Cp (chg p w t) (v.chg w t) := by
  refine ⟨?_, ?_, c.work, ?_, ?_, c.notes⟩
  · show (ap (p.kept, p.text) (w, t)).1 = _
    rw [c.kept, c.text]
    rfl
  · show (ap (p.kept, p.text) (w, t)).2 = _
    rw [c.kept, c.text]
    rfl
  · show p.many + 1 = (v.past ++ [(w, t)]).length
    rw [c.many]
    simp
  · show lastN 30 (p.past ++ [(w, t)]) = lastN 30 (v.past ++ [(w, t)])
    rw [c.past, lastN_snoc (by omega)]
theorem Cp.job {p : PV} {v : OV} (c : Cp p v) (j : Option (Nat × Nat)) : Cp { p with work := j } { v with job := j } := ⟨c.kept, c.text, rfl, c.many, c.past, c.notes⟩
theorem Cp.note {p : PV} {v : OV} (c : Cp p v) (n : D) : Cp { p with notes := lastN 100 (p.notes ++ [n]) } { v with typed := v.typed ++ [n] } := ⟨c.kept, c.text, c.work, c.many, c.past, by
  show lastN 100 (p.notes ++ [n]) = _
  rw [c.notes, lastN_snoc (by omega)]⟩
theorem say_not {line : List Nat} (h : line.take 4 = say4) : line ≠ wClear ∧ line ≠ wStop ∧ line ≠ [] ∧ countV line = none := by
  refine ⟨fun e => by rw [e] at h; exact absurd h (by decide), fun e => by rw [e] at h; exact absurd h (by decide), fun e => by rw [e] at h; exact absurd h (by decide), ?_⟩
  unfold countV
  split
  · rename_i a b e
    rw [if_neg]
    intro q
    rw [count_two e, q.1] at h
    exact absurd h (by
      show ¬ (wMany ++ ([32] ++ b)).take 4 = say4
      show ¬ [109, 97, 110, 121] = say4
      decide)
  · rfl
theorem count_pos {line : List Nat} : 0 < lmanyV line ↔ countV line ≠ none := by
  unfold lmanyV
  cases e : countV line with
  | none => simp
  | some n =>
    have := (count_le e).1
    simp
    omega
theorem Cp.do {p : PV} {v : OV} (c : Cp p v) (line : List Nat) : Cp (doV p line) (v.doL line) := by
  unfold doV OV.doL
  have c1 := c.chg wRow ([62, 32] ++ line)
  have e1 : AH.chg p wRow ([62, 32] ++ line) = AH.chg p wRow ([62, 32] ++ line) := rfl
  dsimp only
  have c2 : Cp (if line = [] then AH.chg p wRow ([62, 32] ++ line) else AH.chg (AH.chg p wRow ([62, 32] ++ line)) wLine []) (if line = [] then v.chg wRow ([62, 32] ++ line) else (v.chg wRow ([62, 32] ++ line)).chg wLine []) := by
    split
    · exact c1
    · exact c1.chg _ _
  generalize (if line = [] then AH.chg p wRow ([62, 32] ++ line) else AH.chg (AH.chg p wRow ([62, 32] ++ line)) wLine []) = p2 at c2 ⊢
  generalize (if line = [] then v.chg wRow ([62, 32] ++ line) else (v.chg wRow ([62, 32] ++ line)).chg wLine []) = v2 at c2 ⊢
  by_cases h1 : line.take 4 = say4
  · obtain ⟨n1, n2, n3, n4⟩ := say_not h1
    rw [if_pos h1, if_neg n1, if_neg (fun h => n2 h.1), if_neg (fun h => count_pos.mp h n4), if_neg n3, if_pos h1]
    exact c2.chg _ _
  · rw [if_neg h1]
    by_cases h2 : line = wClear
    · rw [if_pos h2, if_pos h2]
      exact c2.chg _ _
    · rw [if_neg h2, if_neg h2, c2.work]
      by_cases h3 : line = wStop ∧ v2.job ≠ none
      · rw [if_pos h3, if_pos h3]
        exact c2.job none
      · rw [if_neg h3, if_neg h3]
        cases h4 : countV line with
        | none =>
          rw [if_neg (fun h => count_pos.mp h h4), if_neg h1]
          dsimp only
          split
          · exact c2
          · exact c2.chg _ _
        | some n =>
          rw [if_pos (count_pos.mpr (by rw [h4]; simp))]
          have e : lmanyV line = n := by unfold lmanyV; rw [h4]; rfl
          rw [e]
          exact c2.job _
theorem Cp.press {p : PV} {v : OV} (c : Cp p v) (n : D) (x : Nat) : Cp (pressV p n x) (v.press n x) := by
  unfold pressV OV.press
  have c1 := c.note n
  generalize ({ p with notes := lastN 100 (p.notes ++ [n]) } : PV) = p1 at c1 ⊢
  generalize ({ v with typed := v.typed ++ [n] } : OV) = v1 at c1 ⊢
  unfold ptV OV.pt
  rw [c1.text]
  split
  · exact c1.do _
  · split
    · split
      · exact c1
      · exact c1.chg _ _
    · split
      · exact c1.chg _ _
      · exact c1
/-- the states told behind each change -/
structure Oh (v : OV) : Prop where
  now : (v.rows, v.line) = v.past.foldl ap ([], [])
  all : ∀ k, k ≤ v.past.length → v.all[k]? = some ((v.past.take k).foldl ap ([], []))
  len : v.all.length = v.past.length + 1
theorem Oh.chg {v : OV} (h : Oh v) (w t : List Nat) : Oh (v.chg w t) := by
  have e : (v.past ++ [(w, t)]).foldl ap ([], []) = ap (v.rows, v.line) (w, t) := by
    rw [List.foldl_append, ← h.now]
    rfl
  refine ⟨?_, fun k hk => ?_, ?_⟩
  · show _ = (v.past ++ [(w, t)]).foldl ap ([], [])
    rw [e]
    rfl
  · have hk : k ≤ (v.past ++ [(w, t)]).length := hk
    rw [List.length_append, List.length_singleton] at hk
    show (v.all ++ [ap (v.rows, v.line) (w, t)])[k]? = some (((v.past ++ [(w, t)]).take k).foldl ap ([], []))
    by_cases q : k ≤ v.past.length
    · rw [List.getElem?_append_left (by rw [h.len]; omega), h.all k q, List.take_append_of_le_length q]
    · have ek : k = v.past.length + 1 := by omega
      subst ek
      rw [List.getElem?_append_right (by rw [h.len]; omega), h.len, List.take_of_length_le (by simp), e]
      simp
  · show (v.all ++ [_]).length = (v.past ++ [_]).length + 1
    rw [List.length_append, List.length_append, h.len]
    rfl
theorem Oh.job {v : OV} (h : Oh v) (j : Option (Nat × Nat)) : Oh { v with job := j } := ⟨h.now, h.all, h.len⟩
theorem Oh.note {v : OV} (h : Oh v) (n : List D) : Oh { v with typed := n } := ⟨h.now, h.all, h.len⟩
theorem Oh.do {v : OV} (h : Oh v) (line : List Nat) : Oh (v.doL line) := by
  unfold OV.doL
  dsimp only
  have h1 := h.chg wRow ([62, 32] ++ line)
  have h2 : Oh (if line = [] then v.chg wRow ([62, 32] ++ line) else (v.chg wRow ([62, 32] ++ line)).chg wLine []) := by
    split
    · exact h1
    · exact h1.chg _ _
  generalize (if line = [] then v.chg wRow ([62, 32] ++ line) else (v.chg wRow ([62, 32] ++ line)).chg wLine []) = v2 at h2 ⊢
  split
  · exact h2.chg _ _
  · split
    · exact h2.job _
    · split
      · exact h2.job _
      · split
        · exact h2
        · exact h2.chg _ _
theorem Oh.press {v : OV} (h : Oh v) (n : D) (x : Nat) : Oh (v.press n x) := by
  unfold OV.press
  have h1 : Oh { v with typed := v.typed ++ [n] } := h.note _
  generalize ({ v with typed := v.typed ++ [n] } : OV) = v1 at h1 ⊢
  unfold OV.pt
  split
  · exact h1.do _
  · split
    · split
      · exact h1
      · exact h1.chg _ _
    · split
      · exact h1.chg _ _
      · exact h1
end
end AH
set_option maxRecDepth 100000
set_option maxHeartbeats 4000000
namespace AH
open PySem L2 TL
def wAt : List Nat := [97, 116]
def wGone : List Nat := [103, 111, 110, 101]
def wSome : List Nat := [115, 111, 109, 101]
def wWhole : List Nat := [119, 104, 111, 108, 101]
/-- of a look -/
inductive LM where
  | at (n s p : Nat) (k : Option Nat) (f : Nat) (z : List Nat)
  | gone (n s p : Nat)
/-- of the hall -/
inductive HM where
  | whole (n s d v : Nat) (line : List Nat) (rows : List (List Nat))
  | some (n s d k : Nat) (cs : List (List Nat × List Nat))
def HM.n : HM → Nat
  | .whole n _ _ _ _ _ => n
  | .some n _ _ _ _ => n
def HM.s : HM → Nat
  | .whole _ s _ _ _ _ => s
  | .some _ s _ _ _ => s
def HM.d : HM → Nat
  | .whole _ _ d _ _ _ => d
  | .some _ _ d _ _ => d
def HM.k : HM → Nat
  | .whole _ _ _ k _ _ => k
  | .some _ _ _ k _ => k
def nkF : Option Nat → List Nat
  | none => [63]
  | some k => numL k
def lmF : LM → List (List Nat)
  | .at n s p k f z => [wAt, numL n, numL s, numL p, nkF k, numL f, z]
  | .gone n s p => [wGone, numL n, numL s, numL p]
def csF (cs : List (List Nat × List Nat)) : List (List Nat) := cs.flatMap fun q => [q.1, q.2]
def hmF : HM → List (List Nat)
  | .whole n s d v line rows => [wWhole, numL n, numL s, numL d, numL v, line] ++ rows
  | .some n s d k cs => [wSome, numL n, numL s, numL d, numL k] ++ csF cs
def lmT (m : LM) : List Nat := packV (lmF m)
def hmT (m : HM) : List Nat := packV (hmF m)
abbrev mil : Nat := 1000000
def tx (n : Nat) (z : List Nat) : Prop := z.length ≤ n ∧ ∀ c ∈ z, c ∈ sg
def LMok : LM → Prop
  | .at n s p k f z => n < mil ∧ s < mil ∧ p < mil ∧ (∀ x, k = some x → x < mil) ∧ f < mil ∧ z.length ≤ 20 ∧ ∀ c ∈ z, c ∈ an
  | .gone n s p => n < mil ∧ s < mil ∧ p < mil
def HMok : HM → Prop
  | .whole n s d v line rows => n < mil ∧ s < mil ∧ d < mil ∧ v < mil ∧ tx 60 line ∧ rows.length ≤ 40 ∧ ∀ z ∈ rows, tx 60 z
  | .some n s d k cs => n < mil ∧ s < mil ∧ d < mil ∧ k < mil ∧ cs.length ≤ 8 ∧ ∀ q ∈ cs, tx 60 q.1 ∧ tx 60 q.2
theorem an_sg : ∀ c ∈ an, c ∈ sg := by decide
theorem dg_sg : ∀ c ∈ dg, c ∈ sg := by decide
theorem num_sg {n c : Nat} (h : c ∈ numL n) : c ∈ sg := dg_sg c (numL_dg h)
theorem num_tx {n : Nat} (h : n < mil) : tx 60 (numL n) := ⟨Nat.le_trans (numL_le (k := 6) (by decide) h) (by decide), fun c hc => num_sg hc⟩
theorem fs_of {fs : List (List Nat)} {n : Nat} (h0 : fs ≠ []) (h : ∀ z ∈ fs, tx 60 z) (hn : fs.length ≤ n) : Fs fs (61 * n) := by
  refine ⟨h0, fun z hz => (h z hz).2, ?_⟩
  have : ∀ gs : List (List Nat), (∀ z ∈ gs, tx 60 z) → (gs.map (·.length)).sum + gs.length ≤ 61 * gs.length := fun gs => by
    induction gs with
    | nil => intro _; simp
    | cons g gs ih =>
      intro hg
      have h1 := (hg g (List.mem_cons_self ..)).1
      have h2 := ih fun z hz => hg z (List.mem_cons_of_mem _ hz)
      simp only [List.map_cons, List.sum_cons, List.length_cons]
      omega
  have := this fs h
  omega
theorem lm_tx {m : LM} (h : LMok m) : ∀ z ∈ lmF m, tx 60 z := by
  cases m with
  | «at» n s p k f z =>
    obtain ⟨h1, h2, h3, h4, h5, h6, h7⟩ := h
    have hk : tx 60 (nkF k) := by
      cases k with
      | none => exact ⟨by decide, by decide⟩
      | some x => exact num_tx (h4 x rfl)
    intro y hy
    simp only [lmF, List.mem_cons, List.not_mem_nil, or_false] at hy
    rcases hy with rfl | rfl | rfl | rfl | rfl | rfl | rfl
    · exact ⟨by decide, by decide⟩
    · exact num_tx h1
    · exact num_tx h2
    · exact num_tx h3
    · exact hk
    · exact num_tx h5
    · exact ⟨by omega, fun c hc => an_sg c (h7 c hc)⟩
  | gone n s p =>
    obtain ⟨h1, h2, h3⟩ := h
    intro y hy
    simp only [lmF, List.mem_cons, List.not_mem_nil, or_false] at hy
    rcases hy with rfl | rfl | rfl | rfl
    · exact ⟨by decide, by decide⟩
    · exact num_tx h1
    · exact num_tx h2
    · exact num_tx h3
theorem lm_fs {m : LM} (h : LMok m) : Fs (lmF m) 3000 := (fs_of (n := 7) (by cases m <;> simp [lmF]) (lm_tx h) (by cases m <;> simp [lmF])).mono (by decide)
theorem cs_len {cs : List (List Nat × List Nat)} : (csF cs).length = 2 * cs.length := by
  unfold csF
  induction cs with
  | nil => rfl
  | cons q qs ih =>
    rw [List.flatMap_cons, List.length_append, ih]
    simp
    omega
theorem hm_tx {m : HM} (h : HMok m) : ∀ z ∈ hmF m, tx 60 z := by
  cases m with
  | whole n s d v line rows =>
    obtain ⟨h1, h2, h3, h4, h5, h6, h7⟩ := h
    intro y hy
    rcases List.mem_append.mp hy with hy | hy
    · simp only [List.mem_cons, List.not_mem_nil, or_false] at hy
      rcases hy with rfl | rfl | rfl | rfl | rfl | rfl
      · exact ⟨by decide, by decide⟩
      · exact num_tx h1
      · exact num_tx h2
      · exact num_tx h3
      · exact num_tx h4
      · exact h5
    · exact h7 y hy
  | some n s d k cs =>
    obtain ⟨h1, h2, h3, h4, h5, h6⟩ := h
    intro y hy
    rcases List.mem_append.mp hy with hy | hy
    · simp only [List.mem_cons, List.not_mem_nil, or_false] at hy
      rcases hy with rfl | rfl | rfl | rfl | rfl
      · exact ⟨by decide, by decide⟩
      · exact num_tx h1
      · exact num_tx h2
      · exact num_tx h3
      · exact num_tx h4
    · unfold csF at hy
      obtain ⟨q, hq, hy⟩ := List.mem_flatMap.mp hy
      simp only [List.mem_cons, List.not_mem_nil, or_false] at hy
      rcases hy with rfl | rfl
      · exact (h6 q hq).1
      · exact (h6 q hq).2
theorem hm_fs {m : HM} (h : HMok m) : Fs (hmF m) 3000 := (fs_of (n := 46) (by cases m <;> simp [hmF]) (hm_tx h) (by
  cases m with
  | whole n s d v line rows =>
    have := h.2.2.2.2.2.1
    simp [hmF]
    omega
  | some n s d k cs =>
    have := h.2.2.2.2.1
    simp [hmF, cs_len]
    omega)).mono (by decide)
theorem lm_un {m : LM} (h : LMok m) : unpackV (lmT m) = some (lmF m) := unpack_pack ((lm_fs h).mono (by decide))
theorem hm_un {m : HM} (h : HMok m) : unpackV (hmT m) = some (hmF m) := unpack_pack ((hm_fs h).mono (by decide))
theorem lm_len {m : LM} (h : LMok m) : (lmT m).length ≤ 3015 := packV_len (lm_fs h) (by decide)
theorem hm_len {m : HM} (h : HMok m) : (hmT m).length ≤ 3015 := packV_len (hm_fs h) (by decide)
/-- a text on the road to the hall, to a look: a letter, or one that was cut off -/
def LT (t : List Nat) : Prop := t.length ≤ 4000 ∧ okS t ∧ (unpackV t = none ∨ ∃ m, LMok m ∧ t = lmT m)
def HT' (t : List Nat) : Prop := t.length ≤ 4000 ∧ okS t ∧ (unpackV t = none ∨ ∃ m, HMok m ∧ t = hmT m)
theorem LT.of {m : LM} (h : LMok m) : LT (lmT m) := ⟨Nat.le_trans (lm_len h) (by decide), packV_okS (lm_fs h), .inr ⟨m, h, rfl⟩⟩
theorem HT'.of {m : HM} (h : HMok m) : HT' (hmT m) := ⟨Nat.le_trans (hm_len h) (by decide), packV_okS (hm_fs h), .inr ⟨m, h, rfl⟩⟩
theorem LT.cut {t : List Nat} (h : LT t) {e : Nat} (he : e < t.length) : unpackV (t.take e) = none ∨ unpackV t = none := by
  obtain ⟨_, _, h | ⟨m, h, rfl⟩⟩ := h
  · exact .inr h
  · exact .inl (unpack_cut (lm_fs h) he)
theorem lm_unp {S : Sto} {m : LM} (h : LMok m) : W (F_unpacked [.str (lmT m)] S) fun o S' => o = .f ((lmF m).map .str) ∧ S' = S := by
  have := unpacked_ok (S := S) (t := lmT m) (by have := lm_len h; omega) (packV_okS (lm_fs h))
  rw [lm_un h] at this
  exact this
theorem hm_unp {S : Sto} {m : HM} (h : HMok m) : W (F_unpacked [.str (hmT m)] S) fun o S' => o = .f ((hmF m).map .str) ∧ S' = S := by
  have := unpacked_ok (S := S) (t := hmT m) (by have := hm_len h; omega) (packV_okS (hm_fs h))
  rw [hm_un h] at this
  exact this
end AH
set_option maxRecDepth 100000
set_option maxHeartbeats 4000000
namespace AH
open PySem L2 TL
structure LV where
  n : Nat
  s : Nat
  p : Nat
  w : Nat
  h : Nat
  kept : List (List Nat)
  text : List Nat
  ver : Option Nat
  first : Nat
  signs : List Nat
  gone : Bool
  past : Bool
abbrev lookD (v : LV) : List D := [.tup [.int v.n, .int v.s, .int v.p], .tup [.int v.w, .int v.h], .lst (v.kept.map .str), .str v.text, numD v.ver, .int v.first, .str v.signs, .bl v.gone, .bl v.past]
abbrev lookO (v : LV) : MO := .ins 1 (lookD v)
def LV.new (n s p w h : Nat) : LV := ⟨n, s, p, w, h, [], [], none, 0, [], false, false⟩
def LV.letters (v : LV) : List LM := if v.past = true then [] else if v.gone = true then [.gone v.n v.s v.p] else [.at v.n v.s v.p v.ver v.first (v.signs.take 20)]
def LV.tk (v : LV) (k : Nat) : List (List Nat × List Nat) → LV
  | [] => v
  | q :: r => LV.tk (if v.ver = some k then { v with kept := (ap (v.kept, v.text) q).1, text := (ap (v.kept, v.text) q).2, ver := some (k + 1) } else v) (k + 1) r
def LV.done (v : LV) (d : Nat) : LV := if d > v.first then { v with signs := v.signs.drop (d - v.first), first := d } else v
def LV.whole (v : LV) (k : Nat) (line : List Nat) (rows : List (List Nat)) : LV := if ∀ x, v.ver = some x → x < k then { v with ver := some k, text := line, kept := rows } else v
def LV.fin (v : LV) : HM → LV
  | .whole _ _ _ k line rows => v.whole k line rows
  | .some _ _ _ k cs => v.tk k cs
def LV.hear (v : LV) (m : HM) : LV := if m.n ≠ v.n then v else if m.s ≠ v.s then { v with past := v.past || decide (v.s < m.s) } else (v.done m.d).fin m
section
variable {S : Sto} {A A' X Y : Hm} {l : Nat} {v : LV}
theorem inV_strs {c : List Nat} : ∀ zs : List (List Nat), inV (.str ⟨c.toArray⟩) (zs.map fun z => V.str ⟨z.toArray⟩) = decide (c ∈ zs)
  | [] => rfl
  | z :: zs => by
    have ih := inV_strs (c := c) zs
    unfold inV at ih ⊢
    rw [List.map_cons, List.any_cons, ih]
    have e : eqV (.str ⟨z.toArray⟩) (.str ⟨c.toArray⟩) = decide (c = z) := by
      show ((⟨z.toArray⟩ : Str) == ⟨c.toArray⟩) = _
      by_cases q : c = z
      · rw [q, decide_eq_true rfl]
        exact beq_self_eq_true _
      · rw [decide_eq_false q]
        refine beq_eq_false_iff_ne.mpr fun h => q ?_
        rw [str_eq] at h
        exact h.symm
    rw [e]
    by_cases q : c = z <;> by_cases r : c ∈ zs <;> simp [q, r]
theorem flat_strs : ∀ zs : List (List Nat), flatDs (zs.map D.str) = some (zs.map fun z => V.str ⟨z.toArray⟩)
  | [] => rfl
  | z :: zs => by
    rw [List.map_cons, flatDs, flat_strs zs]
    rfl
theorem wo_inT {neg : Bool} {c : List Nat} {zs : List (List Nat)} {P : D → Sto → Prop} (h : P (.bl (if neg then !decide (c ∈ zs) else decide (c ∈ zs))) S) : W (fIn neg (.str c) (.tup (zs.map .str)) S) P := by
  refine ⟨_, S, ?_, h⟩
  simp only [fIn, flatD, Option.bind_some, seqOf, flat_strs, inV_strs]
theorem wo_ninT {c : List Nat} {zs : List (List Nat)} {P : D → Sto → Prop} (h : P (.bl (!decide (c ∈ zs))) S) : W (fIn true (.str c) (.tup (zs.map .str)) S) P := wo_inT h
theorem num_w {n : Nat} (h : n < mil) : W (F_number [.str (numL n)] S) fun o S' => o = .v (.int n) ∧ S' = S := by
  have := number_ok (S := S) (w := numL n) (Nat.le_trans (num_tx h).1 (by decide)) (okS_lt fun c hc => by have := dg_iff.mp (numL_dg hc); omega)
  rw [numV_num h] at this
  exact this
theorem isnum_w {x a b : Int} : W (F_is_number [.int x, .int a, .int b] S) fun o S' => o = .v (.bl (decide (a ≤ x) && decide (x ≤ b))) ∧ S' = S := by
  refine w_run rfl ?_
  show WS (b_is_number [.val (.int x), .val (.int a), .val (.int b)] S) _
  unfold b_is_number
  fail "STEP"
  refine Br.b (fun z => ?_) (fun z => ?_)
  · fail "STEP"
    rw [show decide (a ≤ x) = true from z]
    exact ⟨rfl, rfl⟩
  · fail "STEP"
    rw [show decide (a ≤ x) = false from z]
    exact ⟨rfl, rfl⟩
theorem isnum_y {x a b : Int} (h : a ≤ x ∧ x ≤ b) : W (F_is_number [.int x, .int a, .int b] S) fun o S' => o = .v (.bl true) ∧ S' = S := isnum_w.mono fun o S' e => by
  rw [decide_eq_true h.1, decide_eq_true h.2] at e
  exact e
theorem nsize_w {w h : Int} (hw : 2 ≤ w ∧ w ≤ 40) (hh : 1 ≤ h ∧ h ≤ 20) : W (F_need_size [.int w, .int h] S) fun o S' => o = .v .non ∧ S' = S := by
  refine w_run rfl ?_
  show WS (b_need_size [.val (.int w), .val (.int h)] S) _
  unfold b_need_size
  fail "STEP"
  refine (isnum_y (by omega)).mono fun o S1 e => ?_
  obtain ⟨rfl, rfl⟩ := e
  fail "STEP"
  refine (isnum_y (by omega)).mono fun o S1 e => ?_
  obtain ⟨rfl, rfl⟩ := e
  fail "STEP"
  exact ⟨rfl, rfl⟩
theorem linit_w {n s p w h : Nat} (hs : Hs S A) (u : Ud A l (.ins 1 []) (lookO (LV.new n s p w h)) A') (hn : n ≤ 3) (h1 : 1 ≤ s ∧ s ≤ 100000) (hp : p ≤ 2) (hw : 2 ≤ w ∧ w ≤ 40) (hh : 1 ≤ h ∧ h ≤ 20) :
    W (F_Look___init__ [.ref l, .int n, .int s, .int p, .int w, .int h] S) fun o S' => o = .v .non ∧ Hs S' A' := by
  obtain ⟨X, Y, rfl, rfl⟩ := u.out
  refine w_run rfl ?_
  show WS (b_Look___init__ [.val (.ref l), .val (.int n), .val (.int s), .val (.int p), .val (.int w), .val (.int h), .no] S) _
  unfold b_Look___init__
  fail "STEP"
  refine (isnum_y (by omega)).mono fun o S1 e => ?_
  obtain ⟨rfl, rfl⟩ := e
  fail "STEP"
  refine (isnum_y (by omega)).mono fun o S1 e => ?_
  obtain ⟨rfl, rfl⟩ := e
  fail "STEP"
  refine (isnum_y (by omega)).mono fun o S1 e => ?_
  obtain ⟨rfl, rfl⟩ := e
  fail "STEP"
  refine (nsize_w (by omega) (by omega)).mono fun o S1 e => ?_
  obtain ⟨rfl, rfl⟩ := e
  fail "STEP"
  exact ⟨rfl, hs⟩
theorem lpress_w {z : List Nat} (hs : Hs S A) (u : Ud A l (lookO v) (lookO { v with signs := v.signs ++ z }) A') (hg : v.gone = false) (hp : v.past = false) (hz : ∀ c ∈ z, c ∈ an) (hl : v.signs.length + z.length ≤ 1000000) :
    W (F_Look_press [.ref l, .str z] S) fun o S' => o = .v .non ∧ Hs S' A' := by
  obtain ⟨X, Y, rfl, rfl⟩ := u.out
  refine w_run rfl ?_
  show WS (b_Look_press [.val (.ref l), .val (.str z)] S) _
  unfold b_Look_press
  fail "STEP"
  refine Br.bf hg ?_
  fail "STEP"
  refine Br.bf hp ?_
  fail "STEP"
  refine (need_ok hz).mono fun o S1 e => ?_
  obtain ⟨rfl, rfl⟩ := e
  fail "STEP"
  exact ⟨rfl, hs⟩
theorem lwait_w (hs : Hs S A) (u : (l, lookO v) ∈ A) (hl : v.signs.length ≤ 1000000) : W (F_Look_waiting [.ref l] S) fun o S' => o = .v (.int v.signs.length) ∧ S' = S := by
  refine w_run rfl ?_
  show WS (b_Look_waiting [.val (.ref l)] S) _
  unfold b_Look_waiting
  fail "STEP"
  exact ⟨rfl, rfl⟩
theorem lover_w (hs : Hs S A) (u : (l, lookO v) ∈ A) : W (F_Look_over [.ref l] S) fun o S' => o = .v (.bl v.past) ∧ S' = S := by
  refine w_run rfl ?_
  show WS (b_Look_over [.val (.ref l)] S) _
  unfold b_Look_over
  fail "STEP"
  exact ⟨rfl, rfl⟩
end
end AH
set_option maxRecDepth 100000
set_option maxHeartbeats 4000000
namespace AH
open PySem L2 TL
def nP (w : Nat) (z : List Nat) : Nat := (max 1 z.length - 1) / w + 1
def pc (w : Nat) (z : List Nat) (i : Nat) : List Nat := (z.drop (i * w)).take w
def pcs (w : Nat) (z : List Nat) : List (List Nat) := (List.range (nP w z)).map (pc w z)
def shown (rows : List (List Nat)) (line : List Nat) (w : Nat) : List (List Nat) := rows.flatMap (pcs w) ++ pcs w ([62, 32] ++ line)
def seen (rows : List (List Nat)) (line : List Nat) (w h : Nat) : List (List Nat) := (shown rows line w).drop ((shown rows line w).length - h)
end AH
set_option maxRecDepth 100000
set_option maxHeartbeats 4000000
namespace AH
open PySem L2 TL
/-- what is always so of a look -/
structure Lg (v : LV) : Prop where
  n : v.n ≤ 3
  s : v.s < mil
  p : v.p ≤ 2
  w : 2 ≤ v.w ∧ v.w ≤ 40
  h : 1 ≤ v.h ∧ v.h ≤ 20
  k : v.kept.length ≤ 40 ∧ ∀ z ∈ v.kept, tx 60 z
  t : tx 60 v.text
  ver : ∀ x, v.ver = some x → x < mil
  f : v.first < mil
  z : v.signs.length ≤ 1000000 ∧ ∀ c ∈ v.signs, c ∈ an
section
variable {S : Sto} {A A' X Y : Hm} {l : Nat} {v : LV}
theorem at_fs {v : LV} (g : Lg v) : ∀ m ∈ v.letters, LMok m := by
  unfold LV.letters
  have h1 := g.n
  have h2 := g.p
  split
  · nofun
  · split
    · intro m hm
      rw [List.mem_singleton] at hm
      rw [hm]
      exact ⟨by show v.n < 1000000; omega, g.s, by show v.p < 1000000; omega⟩
    · intro m hm
      rw [List.mem_singleton] at hm
      rw [hm]
      exact ⟨by show v.n < 1000000; omega, g.s, by show v.p < 1000000; omega, g.ver, g.f, by rw [List.length_take]; omega, fun c hc => g.z.2 c (List.mem_of_mem_take hc)⟩
theorem strN_w {n : Nat} {P : D → Sto → Prop} (h : n < 10 ^ 20) (k : P (.str (numL n)) S) : W (fStr [.int n] S) P := by
  refine wo_strI ⟨by omega, ?_⟩ (by rw [Int.toNat_natCast]; exact k)
  have : (n : Int) < 10 ^ 20 := by exact_mod_cast h
  omega
theorem lletters_w (hs : Hs S A) (u : (l, lookO v) ∈ A) (g : Lg v) : W (F_Look_letters [.ref l] S) fun o S' => o = .f (v.letters.map fun m => .str (lmT m)) ∧ S' = S := by
  refine w_run rfl ?_
  show WS (b_Look_letters [.val (.ref l), .no, .no, .no] S) _
  unfold b_Look_letters
  have ok := at_fs g
  unfold LV.letters at ok ⊢
  have h1 := g.n
  have h2 := g.p
  have h3 : v.s < 1000000 := g.s
  fail "STEP"
  refine Br.b (fun z => ?_) (fun z => ?_)
  · rw [if_pos z]
    fail "STEP"
    exact ⟨rfl, rfl⟩
  rw [if_neg (by rw [z]; exact Bool.false_ne_true)] at ok ⊢
  fail "STEP"
  refine xl_lc ?_
  fail "STEP"
  refine strN_w (by omega) ?_
  fail "STEP"
  refine strN_w (by omega) ?_
  fail "STEP"
  refine strN_w (by omega) ?_
  fail "STEP"
  refine Br.b (fun z => ?_) (fun z => ?_)
  · rw [if_pos z] at ok ⊢
    fail "STEP"
    have ok := ok _ (List.mem_singleton_self _)
    refine (packed_ok (fs := lmF (.gone v.n v.s v.p)) rfl ((lm_fs ok).mono (by decide))).mono fun o S1 e => ?_
    obtain ⟨rfl, rfl⟩ := e
    fail "STEP"
    exact ⟨rfl, rfl⟩
  · rw [if_neg (by rw [z]; exact Bool.false_ne_true)] at ok ⊢
    have ok := ok _ (List.mem_singleton_self _)
    fail "STAY"
    refine xs_cut (fun ρ S' => ρ = [.val (.ref l), .val (.lst [.str (numL v.n), .str (numL v.s), .str (numL v.p)]), .no, .val (.str (nkF v.ver))] ∧ S' = S) ?_ ?_
    · have h4 := g.ver
      fail "STEP"
      cases hv : v.ver with
      | none =>
        refine ⟨true, rfl, ?_⟩
        fail "STEP"
        exact ⟨rfl, rfl, rfl⟩
      | some x =>
        refine ⟨false, rfl, ?_⟩
        fail "STEP"
        have h5 : x < 1000000 := h4 x hv
        show W (fStr [numD v.ver] S) _
        rw [hv]
        refine strN_w (by omega) ?_
        fail "STEP"
        exact ⟨rfl, rfl, rfl⟩
    rintro ρ S' ⟨rfl, rfl⟩
    have h5 : v.first < 1000000 := g.f
    have h6 := g.z.1
    fail "STEP"
    refine strN_w (by omega) ?_
    fail "STEP"
    rw [show cutL v.signs none (some 20) = v.signs.take 20 from cut_lo v.signs 20]
    refine (packed_ok (fs := lmF (.at v.n v.s v.p v.ver v.first (v.signs.take 20))) rfl ((lm_fs ok).mono (by decide))).mono fun o S1 e => ?_
    obtain ⟨rfl, rfl⟩ := e
    fail "STEP"
    exact ⟨rfl, rfl⟩
theorem lk_eq {k : Nat} {o : Option Nat} {P : D → Sto → Prop} (h : P (.bl (decide (o = some k))) S) : W (fEq (numD o) (.int k) S) P := by
  cases o with
  | none =>
    refine ⟨_, S, rfl, ?_⟩
    exact h
  | some x =>
    refine wo_eqI ?_
    have e : decide ((x : Int) = (k : Int)) = decide (some x = some k) := by
      by_cases q : x = k
      · rw [q]; simp
      · rw [decide_eq_false (by omega), decide_eq_false (fun r => q (Option.some.inj r))]
    rw [e]
    exact h
theorem LV.tk_add : ∀ (a : List (List Nat × List Nat)) (v : LV) (k : Nat) (b : List (List Nat × List Nat)), v.tk k (a ++ b) = (v.tk k a).tk (k + a.length) b
  | [], _, _, _ => rfl
  | q :: a, v, k, b => by
    show LV.tk _ (k + 1) (a ++ b) = _
    rw [LV.tk_add a]
    show _ = LV.tk (LV.tk _ (k + 1) a) _ b
    rw [show k + (q :: a).length = k + 1 + a.length by simp; omega]
theorem LV.tk_len : ∀ (a : List (List Nat × List Nat)) (v : LV) (k : Nat), v.kept.length ≤ 40 → (v.tk k a).kept.length ≤ 40
  | [], _, _, h => h
  | q :: a, v, k, h => LV.tk_len a _ _ (by
    split
    · exact ap_len h
    · exact h)
theorem cs_at {q : List Nat × List Nat} : ∀ {cs : List (List Nat × List Nat)} {j : Nat}, cs[j]? = some q → (csF cs)[2 * j]? = some q.1 ∧ (csF cs)[2 * j + 1]? = some q.2
  | [], j, h => by simp at h
  | c :: cs, 0, h => by simp at h; subst h; exact ⟨rfl, rfl⟩
  | c :: cs, j + 1, h => by
    obtain ⟨h1, h2⟩ := cs_at (cs := cs) (j := j) (by simpa using h)
    unfold csF at h1 h2 ⊢
    rw [List.flatMap_cons]
    have e1 : 2 * (j + 1) = 2 * j + 1 + 1 := by omega
    rw [e1]
    exact ⟨h1, h2⟩
theorem ltake_w {k : Nat} {cs : List (List Nat × List Nat)} (hs : Hs S A) (u : Ud A l (lookO v) (lookO (v.tk k cs)) A') (hk : v.kept.length ≤ 40) (hc : cs.length ≤ 100) : W (F_Look_take [.ref l, .int k, .lst ((csF cs).map .str)] S) fun o S' => o = .v .non ∧ Hs S' A' := by
  obtain ⟨X, Y, rfl, rfl⟩ := u.out
  refine w_run rfl ?_
  show WS (b_Look_take [.val (.ref l), .val (.int k), .val (.lst ((csF cs).map .str)), .no] S) _
  unfold b_Look_take
  have hl : ((csF cs).map D.str).length = 2 * cs.length := by rw [List.length_map, cs_len]
  fail "STEP"
  rw [hl]
  refine ⟨by omega, ?_⟩
  refine ws_loop (fun j ρ S => ∃ s3, ρ = [.val (.ref l), .val (.int (k + j : Nat)), .val (.lst ((csF cs).map .str)), s3] ∧ Hs S (X ++ (l, lookO (v.tk k (cs.take j))) :: Y)) ⟨_, rfl, hs⟩ ?_ ?_
  · rintro j d ρ S hd ⟨s3, rfl, hs⟩
    obtain ⟨rfl, lt⟩ := rng3_get hd
    have lt : j < cs.length := by
      unfold rn3 at lt
      split at lt
      · omega
      · omega
    obtain ⟨q, hq⟩ : ∃ q, cs[j]? = some q := ⟨_, List.getElem?_eq_getElem lt⟩
    obtain ⟨q1, q2⟩ := cs_at hq
    generalize hv : v.tk k (cs.take j) = vj at hs
    have lv : vj.kept.length ≤ 40 := by rw [← hv]; exact LV.tk_len _ _ _ hk
    have nx : v.tk k (cs.take (j + 1)) = if vj.ver = some (k + j) then { vj with kept := (ap (vj.kept, vj.text) q).1, text := (ap (vj.kept, vj.text) q).2, ver := some (k + j + 1) } else vj := by
      rw [List.take_add_one, hq, Option.toList_some, LV.tk_add, hv, List.length_take, Nat.min_eq_left (by omega)]
      rfl
    fail "STAY"
    refine xs_cut (fun ρ S => ρ = [.val (.ref l), .val (.int (k + j : Nat)), .val (.lst ((csF cs).map .str)), .val (.int (0 + (j : Nat) * 2))] ∧ Hs S (X ++ (l, lookO (v.tk k (cs.take (j + 1)))) :: Y)) ?_ ?_
    · fail "STEP"
      refine lk_eq ?_
      fail "STEP"
      refine Br.d (fun z => ?_) (fun z => ?_)
      · rw [if_pos z] at nx
        fail "STEP"
        refine wo_ixL (d := .str q.1) (by omega) (by rw [show (0 + (j : Int) * 2).toNat = 2 * j by omega, List.getElem?_map, q1]; rfl) ?_
        fail "STEP"
        refine wo_ixL (d := .str q.2) (by omega) (by rw [show (0 + (j : Int) * 2 + 1).toNat = 2 * j + 1 by omega, List.getElem?_map, q2]; rfl) ?_
        fail "STEP"
        refine (changed_ok (by omega)).mono fun o S1 e => ?_
        obtain ⟨rfl, rfl⟩ := e
        fail "STEP"
        rw [nx]
        exact ⟨rfl, rfl, hs⟩
      · rw [if_neg z] at nx
        fail "STEP"
        rw [nx]
        exact ⟨rfl, rfl, hs⟩
    rintro ρ S ⟨rfl, hs⟩
    fail "STEP"
    exact hs
  · rintro ρ S ⟨s3, rfl, hs⟩
    rw [rng3_len, show rn3 0 (2 * cs.length : Nat) 2 = cs.length by unfold rn3; split <;> omega, List.take_length] at hs
    fail "STEP"
    exact ⟨rfl, hs⟩
theorem LV.done_ver {v : LV} {d : Nat} : (v.done d).ver = v.ver ∧ (v.done d).kept = v.kept ∧ (v.done d).text = v.text := by
  unfold LV.done
  split <;> exact ⟨rfl, rfl, rfl⟩
theorem lhear_w {m : HM} (hs : Hs S A) (u : Ud A l (lookO v) (lookO (v.hear m)) A') (g : Lg v) (hm : HMok m) : W (F_Look_hear [.ref l, .str (hmT m)] S) fun o S' => o = .v .non ∧ Hs S' A' := by
  obtain ⟨X, Y, rfl, rfl⟩ := u.out
  refine w_run rfl ?_
  show WS (b_Look_hear [.val (.ref l), .val (.str (hmT m)), .no, .no, .no] S) _
  unfold b_Look_hear
  have lz := g.z.1
  have lk := g.k.1
  obtain ⟨w, rest, eF, hw, h1, h2, h3, h4⟩ : ∃ w rest, hmF m = w :: numL m.n :: numL m.s :: numL m.d :: numL m.k :: rest ∧ ((w = wSome ∧ ∃ n s d k cs, m = .some n s d k cs) ∨ (w = wWhole ∧ ∃ n s d k line rows, m = .whole n s d k line rows)) ∧ m.n < mil ∧ m.s < mil ∧ m.d < mil ∧ m.k < mil := by
    cases m with
    | whole n s d k line rows => exact ⟨_, _, rfl, .inr ⟨rfl, _, _, _, _, _, _, rfl⟩, hm.1, hm.2.1, hm.2.2.1, hm.2.2.2.1⟩
    | some n s d k cs => exact ⟨_, _, rfl, .inl ⟨rfl, _, _, _, _, _, rfl⟩, hm.1, hm.2.1, hm.2.2.1, hm.2.2.2.1⟩
  have hw2 : w ∈ [wSome, wWhole] := by rcases hw with h | h <;> simp [h.1]
  unfold LV.hear
  fail "STAY"
  fail "ONE"
  refine (hm_unp hm).mono fun o S1 e => ?_
  obtain ⟨rfl, rfl⟩ := e
  fail "STAY"
  rw [eF]
  have nw := fun {S : Sto} (n : Nat) (h : n < mil) => num_w (S := S) h
  fail "STEP"
  refine wo_ninT (zs := [wSome, wWhole]) ?_
  rw [decide_eq_true hw2]
  fail "STEP"
  refine (num_w h1).mono fun o S1 e => ?_
  obtain ⟨rfl, rfl⟩ := e
  fail "STEP"
  refine Br.d (fun z => ?_) (fun z => ?_)
  rotate_left
  · rw [if_pos (show m.n ≠ v.n by omega)]
    fail "STEP"
    exact ⟨rfl, hs⟩
  rw [if_neg (show ¬ m.n ≠ v.n by omega)]
  fail "STEP"
  refine (num_w h2).mono fun o S1 e => ?_
  obtain ⟨rfl, rfl⟩ := e
  fail "STEP"
  refine Br.d (fun z2 => ?_) (fun z2 => ?_)
  rotate_left
  · rw [if_pos (show m.s ≠ v.s by omega)]
    fail "STEP"
    refine Br.b (fun q => ?_) (fun q => ?_)
    · fail "STEP"
      rw [show (v.past || decide (v.s < m.s)) = true by rw [q]; rfl]
      exact ⟨rfl, hs⟩
    · fail "STEP"
      refine ⟨rfl, ?_⟩
      have e : decide ((v.s : Int) < m.s) = decide (v.s < m.s) := by
        by_cases r : v.s < m.s
        · rw [decide_eq_true r, decide_eq_true (by omega)]
        · rw [decide_eq_false r, decide_eq_false (by omega)]
      rw [show (v.past || decide (v.s < m.s)) = decide ((v.s : Int) < m.s) by rw [q, e]; rfl]
      exact hs
  rw [if_neg (show ¬ m.s ≠ v.s by omega)]
  fail "STAY"
  fail "ONE"
  refine (num_w h3).mono fun o S1 e => ?_
  obtain ⟨rfl, rfl⟩ := e
  fail "STAY"
  refine xs_cut (fun ρ S => ρ = [.val (.ref l), .val (.str (hmT m)), .val (.lst ((w :: numL m.n :: numL m.s :: numL m.d :: numL m.k :: rest).map .str)), .val (.int m.s), .val (.int m.d)] ∧ Hs S (X ++ (l, lookO (v.done m.d)) :: Y)) ?_ ?_
  · unfold LV.done
    fail "STEP"
    refine Br.b (fun q => ?_) (fun q => ?_)
    · have q : v.first < m.d := by simpa using q
      rw [if_pos q]
      fail "STEP"
      have e : (m.d : Int) - v.first = ((m.d - v.first : Nat) : Int) := by omega
      rw [e, show cutL v.signs (some ((m.d - v.first : Nat) : Int)) none = v.signs.drop (m.d - v.first) from cut_hi _ _] at hs
      exact ⟨rfl, rfl, hs⟩
    · have q : ¬ v.first < m.d := by simpa using q
      rw [if_neg q]
      fail "STEP"
      exact ⟨rfl, rfl, hs⟩
  rintro ρ S2 ⟨rfl, hs⟩
  obtain ⟨dv1, dv2, dv3⟩ := LV.done_ver (v := v) (d := m.d)
  generalize v.done m.d = v1 at hs dv1 dv2 dv3 ⊢
  have ver1 : ∀ x, v1.ver = some x → x < mil := fun x e => g.ver x (by rw [← dv1]; exact e)
  fail "STEP"
  rcases hw with ⟨rfl, n, s, d, k, cs, rfl⟩ | ⟨rfl, n, s, d, k, line, rows, rfl⟩
  · refine Br.dt rfl ?_
    fail "STEP"
    refine (num_w h4).mono fun o S1 e => ?_
    obtain ⟨rfl, rfl⟩ := e
    fail "STEP"
    have er : rest = csF cs := by
      have := eF
      unfold hmF at this
      simpa [HM.n, HM.s, HM.d, HM.k] using this.symm
    have e5 : ∀ a b c d e : List Nat, cutL ((a :: b :: c :: d :: e :: rest).map D.str) (some 5) none = (csF cs).map .str := fun a b c d e => by
      rw [er]
      exact cut_hi _ 5
    rw [e5]
    have hc := hm.2.2.2.2.1
    refine (ltake_w (v := v1) (k := k) (cs := cs) hs (by fail "UDD") (by rw [dv2]; exact lk) (by omega)).mono fun o S1 e => ?_
    obtain ⟨rfl, hs⟩ := e
    fail "STEP"
    exact ⟨rfl, hs⟩
  · refine Br.df (by decide) ?_
    have er : rest = line :: rows := by
      have := eF
      unfold hmF at this
      simpa [HM.n, HM.s, HM.d, HM.k] using this.symm
    have fin : ∀ {S : Sto}, Hs S (X ++ (l, lookO v1) :: Y) → (∀ x, v1.ver = some x → x < k) → WS ((sSeq (sPutF 1 4 (eVar 0) (eN (callE AH.F_number) (aCons (e2 fIx (eVar 2) (eC (.int 4))) aNil))) (sSeq (sPutF 1 3 (eVar 0) (e2 fIx (eVar 2) (eC (.int 5)))) (sPutF 1 2 (eVar 0) (eV (e3 fSlL (eVar 2) (oSome (eC (.int 6))) oNone))))) [.val (.ref l), .val (.str (hmT (.whole n s d k line rows))), .val (.lst ((wWhole :: numL (HM.whole n s d k line rows).n :: numL (HM.whole n s d k line rows).s :: numL (HM.whole n s d k line rows).d :: numL (HM.whole n s d k line rows).k :: rest).map .str)), .val (.int (HM.whole n s d k line rows).s), .val (.int (HM.whole n s d k line rows).d)] S) (endP fun o S' => o = .v .non ∧ Hs S' (X ++ (l, lookO (v1.fin (.whole n s d k line rows))) :: Y)) := by
      intro S hs hk
      fail "STEP"
      refine (num_w h4).mono fun o S1 e => ?_
      obtain ⟨rfl, rfl⟩ := e
      rw [er]
      fail "STEP"
      have e6 : ∀ a b c d e f : List Nat, cutL ((a :: b :: c :: d :: e :: f :: rows).map D.str) (some 6) none = rows.map .str := fun a b c d e f => cut_hi _ 6
      rw [e6] at hs
      have ef : v1.fin (.whole n s d k line rows) = { v1 with ver := some k, text := line, kept := rows } := by
        show v1.whole k line rows = _
        unfold LV.whole
        rw [if_pos hk]
      rw [ef]
      exact ⟨rfl, hs⟩
    fail "STEP"
    refine ⟨_, isNon_num, ?_⟩
    fail "STEP"
    refine Br.d (fun q => ?_) (fun q => ?_)
    · fail "STAY"
      exact fin hs fun x e => by rw [q] at e; cases e
    · obtain ⟨x, hx⟩ : ∃ x, v1.ver = some x := Option.ne_none_iff_exists'.mp q
      fail "STEP"
      refine (num_w h4).mono fun o S1 e => ?_
      obtain ⟨rfl, rfl⟩ := e
      fail "STEP"
      show W (fGt (.int _) (numD v1.ver) _) _
      have e2 : numD v1.ver = .int x := by rw [hx]; rfl
      rw [e2]
      fail "STEP"
      refine Br.b (fun q => ?_) (fun q => ?_)
      · have q : x < k := by simpa [HM.k] using q
        fail "STAY"
        exact fin hs fun y e => by rw [hx] at e; cases e; exact q
      · have q : ¬ x < k := by simpa [HM.k] using q
        fail "STEP"
        have ef : v1.fin (.whole n s d k line rows) = v1 := by
          show v1.whole k line rows = _
          unfold LV.whole
          rw [if_neg (fun h => q (h x hx))]
        rw [ef]
        exact ⟨rfl, hs⟩
end
end AH
set_option maxRecDepth 100000
set_option maxHeartbeats 4000000
namespace AH
open PySem L2 TL
structure SV where
  s : Nat
  p : Nat
  d : Nat
  k : Option Nat
  here : Bool
structure Sh where
  n : Nat
  l : Nat
  v : SV
structure HP where
  ps : List PV
  ss : List (Nat × SV)
structure HV where
  lh : Nat
  ls : Nat
  ps : List (Nat × PV)
  ss : List Sh
abbrev seatD (v : SV) : List D := [.int v.s, .int v.p, .int v.d, numD v.k, .bl v.here]
abbrev seatO (v : SV) : MO := .ins 2 (seatD v)
abbrev paneE (q : Nat × PV) : Nat × MO := (q.1, .ins 0 (paneD q.2))
abbrev seatE (q : Sh) : Nat × MO := (q.l, seatO q.v)
abbrev kvE (q : Sh) : DK × D := (.i (q.n : Int), .ref q.l)
def Sh.nv (q : Sh) : Nat × SV := (q.n, q.v)
def HV.st (h : HV) : HP := ⟨h.ps.map (·.2), h.ss.map Sh.nv⟩
def hallA (h : HV) : Hm := (h.lh, .ins 3 [.lst (h.ps.map fun q => D.ref q.1), .ref h.ls]) :: (h.ls, .dic false (h.ss.map kvE)) :: (h.ps.map paneE ++ h.ss.map seatE)
def sget (n : Nat) : List (Nat × SV) → Option SV
  | [] => none
  | q :: r => if q.1 = n then some q.2 else sget n r
def sput (n : Nat) (v : SV) : List (Nat × SV) → List (Nat × SV)
  | [] => [(n, v)]
  | q :: r => if q.1 = n then (n, v) :: r else q :: sput n v r
def srt (ns : List Nat) : List Nat := ns.mergeSort fun a b => decide (a ≤ b)
theorem srt_perm (ns : List Nat) : (srt ns).Perm ns := List.mergeSort_perm _ _
theorem srt_up (ns : List Nat) : (srt ns).Pairwise (· ≤ ·) := by
  have h := List.pairwise_mergeSort (le := fun a b : Nat => decide (a ≤ b)) (fun a b c h1 h2 => by simp at *; omega) (fun a b => by simp; omega) ns
  exact h.imp fun h => by simpa using h
theorem srt_int (ns : List Nat) : sortI (ns.map fun n : Nat => (n : Int)) = (srt ns).map fun n : Nat => (n : Int) := by
  refine sorted_one ((sortI_perm _).trans ((srt_perm ns).symm.map _)) (sortI_up _) ?_
  rw [List.pairwise_map]
  exact (srt_up ns).imp fun h => by omega
theorem keysI_nat : ∀ kvs : List (Nat × D), keysI (kvs.map fun q => (DK.i (q.1 : Int), q.2)) = some (kvs.map fun q => (q.1 : Int))
  | [] => rfl
  | q :: r => by
    rw [List.map_cons, keysI, keysI_nat r]
    rfl
/-- who is there, by names -/
def HP.names (h : HP) : List Nat := srt (h.ss.map (·.1))
def pres (ss : List (Nat × SV)) (ns : List Nat) : List (Nat × SV) := ns.filterMap fun n => (sget n ss).bind fun v => if v.here = true then some (n, v) else none
def HP.pres (h : HP) : List (Nat × SV) := AH.pres h.ss h.names
def p0 : PV := ⟨[], [], none, 0, [], []⟩
structure HP.ok (h : HP) : Prop where
  p1 : 1 ≤ h.ps.length ∧ h.ps.length ≤ 3
  pg : ∀ p ∈ h.ps, Pg p
  nd : (h.ss.map (·.1)).Nodup
  n3 : ∀ q ∈ h.ss, q.1 ≤ 3
  sp : ∀ q ∈ h.ss, q.2.p < h.ps.length
theorem nodup_lt : ∀ (k : Nat) {ns : List Nat}, ns.Nodup → (∀ n ∈ ns, n < k) → ns.length ≤ k
  | 0, [], _, _ => Nat.le_refl _
  | 0, n :: ns, _, b => absurd (b n List.mem_cons_self) (Nat.not_lt_zero _)
  | k + 1, ns, h, b => by
    by_cases m : k ∈ ns
    · have := nodup_lt k (h.erase k) fun n hn => by
        have q := h.mem_erase_iff.mp hn
        have := b n q.2
        have := q.1
        omega
      rw [List.length_erase_of_mem m] at this
      omega
    · have := nodup_lt k h fun n hn => by
        have := b n hn
        have : n ≠ k := fun e => m (by rw [← e]; exact hn)
        omega
      omega
theorem nodup_le4 {ns : List Nat} (h : ns.Nodup) (b : ∀ n ∈ ns, n ≤ 3) : ns.length ≤ 4 := nodup_lt 4 h fun n hn => by
  have := b n hn
  omega
theorem HP.ok.len {h : HP} (g : h.ok) : h.ss.length ≤ 4 := by
  have := nodup_le4 g.nd fun n hn => by
    obtain ⟨q, hq, rfl⟩ := List.mem_map.mp hn
    exact g.n3 q hq
  simpa using this
theorem sget_mem {n : Nat} {v : SV} : ∀ {ss : List (Nat × SV)}, sget n ss = some v → (n, v) ∈ ss
  | [], h => by cases h
  | q :: r, h => by
    unfold sget at h
    split at h
    · rename_i e
      cases h
      rw [← e]
      exact List.mem_cons_self
    · exact List.mem_cons_of_mem _ (sget_mem h)
theorem sget_at {n : Nat} {v : SV} : ∀ {ss : List Sh}, sget n (ss.map Sh.nv) = some v → ∃ i q, ss[i]? = some q ∧ q.n = n ∧ q.v = v ∧ dget (ss.map kvE) (.i (n : Int)) = some (.ref q.l) ∧ ∀ v', sput n v' (ss.map Sh.nv) = (ss.set i { q with v := v' }).map Sh.nv
  | [], h => by cases h
  | q :: r, h => by
    rw [List.map_cons, sget] at h
    by_cases e : q.nv.1 = n
    · rw [if_pos e] at h
      cases h
      refine ⟨0, q, rfl, e, rfl, ?_, fun v' => ?_⟩
      · unfold dget
        rw [List.map_cons, List.find?_cons, decide_eq_true (show (kvE q).1 = DK.i (n : Int) by rw [← e]; rfl)]
        rfl
      · rw [List.map_cons, sput, if_pos e, List.set_cons_zero, List.map_cons]
        rw [← e]
        rfl
    · rw [if_neg e] at h
      obtain ⟨i, p, h1, h2, h3, h4, h5⟩ := sget_at h
      refine ⟨i + 1, p, h1, h2, h3, ?_, fun v' => ?_⟩
      · unfold dget at h4 ⊢
        rw [List.map_cons, List.find?_cons, decide_eq_false (show ¬ (kvE q).1 = DK.i (n : Int) from fun z => e (by injection z with z; exact Int.ofNat.inj z))]
        exact h4
      · rw [List.map_cons, sput, if_neg e, h5, List.set_cons_succ, List.map_cons]
theorem sget_no {n : Nat} : ∀ {ss : List Sh}, sget n (ss.map Sh.nv) = none → dget (ss.map kvE) (.i (n : Int)) = none ∧ (∀ v', sput n v' (ss.map Sh.nv) = ss.map Sh.nv ++ [(n, v')]) ∧ ∀ d, dput (ss.map kvE) (.i (n : Int)) d = ss.map kvE ++ [(.i (n : Int), d)]
  | [], h => ⟨rfl, fun _ => rfl, fun _ => rfl⟩
  | q :: r, h => by
    rw [List.map_cons, sget] at h
    by_cases e : q.nv.1 = n
    · rw [if_pos e] at h
      cases h
    · rw [if_neg e] at h
      obtain ⟨h1, h2, h3⟩ := sget_no h
      have ne : ¬ (kvE q).1 = DK.i (n : Int) := fun z => e (by injection z with z; exact Int.ofNat.inj z)
      refine ⟨?_, fun v' => ?_, fun d => ?_⟩
      · unfold dget at h1 ⊢
        rw [List.map_cons, List.find?_cons, decide_eq_false ne]
        exact h1
      · rw [List.map_cons, sput, if_neg e, h2, List.cons_append]
      · have h3 := h3 d
        unfold dput at h3 ⊢
        rw [List.map_cons, List.any_cons, decide_eq_false ne, Bool.false_or]
        by_cases hh : ((r.map kvE).any fun q => decide (q.1 = DK.i (n : Int))) = true
        · rw [if_pos hh] at h3
          have := congrArg List.length h3
          simp at this
        · rw [if_neg hh, List.cons_append]
theorem dput_at {n l' : Nat} : ∀ {ss : List Sh} {i : Nat} {q : Sh}, (ss.map (·.n)).Nodup → ss[i]? = some q → q.n = n → ∀ v', dput (ss.map kvE) (.i (n : Int)) (.ref l') = (ss.set i ⟨n, l', v'⟩).map kvE := by
  have inj : ∀ {a b : Nat}, DK.i (a : Int) = DK.i (b : Int) → a = b := fun z => by injection z with z; exact Int.ofNat.inj z
  have no : ∀ {n : Nat} {ss : List Sh}, n ∉ ss.map (·.n) → (ss.map kvE).map (fun q => if q.1 = DK.i (n : Int) then (q.1, D.ref l') else q) = ss.map kvE := fun {n ss} h => by
    rw [List.map_map]
    refine List.map_congr_left fun q hq => ?_
    show (if (kvE q).1 = _ then _ else _) = _
    rw [if_neg fun z => h (by rw [← inj z]; exact List.mem_map_of_mem hq)]
  intro ss i q nd h1 h2 v'
  have any : ((ss.map kvE).any fun q => decide (q.1 = DK.i (n : Int))) = true := by
    rw [List.any_eq_true]
    exact ⟨kvE q, List.mem_map_of_mem (List.mem_of_getElem? h1), by rw [← h2]; simp⟩
  unfold dput
  rw [if_pos any]
  clear any
  induction ss generalizing i with
  | nil => simp at h1
  | cons r rs ih =>
    rw [List.map_cons, List.nodup_cons] at nd
    cases i with
    | zero =>
      rw [List.getElem?_cons_zero] at h1
      cases h1
      subst h2
      rw [List.map_cons, List.map_cons, no nd.1, List.set_cons_zero, List.map_cons, if_pos rfl]
    | succ i =>
      rw [List.getElem?_cons_succ] at h1
      have ne : ¬ (kvE r).1 = DK.i (n : Int) := fun z => nd.1 (by rw [inj z, ← h2]; exact List.mem_map_of_mem (List.mem_of_getElem? h1))
      rw [List.map_cons, List.map_cons, if_neg ne, List.set_cons_succ, List.map_cons, ih nd.2 h1]
theorem Ud.fam {α : Type} {f : α → Nat × MO} {a b : α} : ∀ {xs : List α} {i : Nat}, xs[i]? = some a → (f b).1 = (f a).1 → Ud (xs.map f) (f a).1 (f a).2 (f b).2 ((xs.set i b).map f)
  | [], _, h, _ => by simp at h
  | x :: xs, 0, h, e => by
    rw [List.getElem?_cons_zero] at h
    cases h
    rw [List.set_cons_zero, List.map_cons, List.map_cons, show f b = ((f a).1, (f b).2) from by rw [← e]]
    exact .hd
  | x :: xs, i + 1, h, e => by
    rw [List.getElem?_cons_succ] at h
    rw [List.set_cons_succ, List.map_cons, List.map_cons]
    exact .tl (Ud.fam h e)
def HV.setP (h : HV) (i l : Nat) (p : PV) : HV := { h with ps := h.ps.set i (l, p) }
def HV.setS (h : HV) (i : Nat) (q : Sh) : HV := { h with ss := h.ss.set i q }
theorem set_keep {α β : Type} {f : α → β} {a b : α} {xs : List α} {i : Nat} (h : xs[i]? = some a) (e : f b = f a) : (xs.set i b).map f = xs.map f := by
  rw [List.map_set, e]
  refine List.ext_getElem? fun j => ?_
  rw [List.getElem?_set]
  split
  · rename_i q
    subst q
    rw [List.length_map]
    split
    · rw [List.getElem?_map, h]
      rfl
    · rename_i q
      rw [List.getElem?_eq_none (by simp; omega)]
  · rfl
theorem ud_pane {h : HV} {i l : Nat} {p p' : PV} (e : h.ps[i]? = some (l, p)) : Ud (hallA h) l (.ins 0 (paneD p)) (.ins 0 (paneD p')) (hallA (h.setP i l p')) := by
  unfold hallA HV.setP
  dsimp only
  rw [set_keep (f := fun q : Nat × PV => D.ref q.1) (b := (l, p')) e rfl]
  exact .tl (.tl (.lf (Ud.fam (f := paneE) (b := (l, p')) e rfl)))
theorem ud_seat {h : HV} {i : Nat} {q : Sh} {v' : SV} (e : h.ss[i]? = some q) : Ud (hallA h) q.l (seatO q.v) (seatO v') (hallA (h.setS i { q with v := v' })) := by
  unfold hallA HV.setS
  dsimp only
  rw [set_keep (f := kvE) (b := { q with v := v' }) e rfl]
  exact .tl (.tl (.rt (Ud.fam (f := seatE) (b := { q with v := v' }) e rfl)))
theorem mem_pane {h : HV} {i l : Nat} {p : PV} (e : h.ps[i]? = some (l, p)) : (l, MO.ins 0 (paneD p)) ∈ hallA h := (ud_pane (p' := p) e).mem
theorem mem_seat {h : HV} {i : Nat} {q : Sh} (e : h.ss[i]? = some q) : (q.l, seatO q.v) ∈ hallA h := (ud_seat (v' := q.v) e).mem
theorem mem_hall {h : HV} : (h.lh, MO.ins 3 [.lst (h.ps.map fun q => D.ref q.1), .ref h.ls]) ∈ hallA h := List.mem_cons_self
theorem mem_seats {h : HV} : (h.ls, MO.dic false (h.ss.map kvE)) ∈ hallA h := List.mem_cons_of_mem _ List.mem_cons_self
section
variable {S : Sto} {A A' X Y : Hm} {l : Nat} {h : HV} {ρ : Rho}
theorem xe_dget2 {eo ek ed : Ev} {P : D → Sto → Prop} (h : W (eo ρ S) fun x S1 => W (isD x S1) fun l S2 => W (ek ρ S2) fun y S3 => W (ed ρ S3) fun z S4 => W (fDGet2 l y z S4) P) : W (eDGet2 eo ek ed ρ S) P := w_bind (h.mono fun x S1 q => w_bind (q.mono fun l S2 q => w_bind (q.mono fun y S3 q => w_bind q)))
theorem xo_isD {lk : Bool} {kvs : List (DK × D)} {P : Nat → Sto → Prop} (hs : Hs S A) (m : (l, MO.dic lk kvs) ∈ A) (k : P l S) : W (isD (.ref l) S) P := by
  refine ⟨l, S, ?_, k⟩
  simp only [isD, hs.get m]
theorem xo_dget2 {lk : Bool} {kvs : List (DK × D)} {y z : D} {k : DK} {P : D → Sto → Prop} (hs : Hs S A) (m : (l, MO.dic lk kvs) ∈ A) (hk : keyD y = some k) (q : P ((dget kvs k).getD z) S) : W (fDGet2 l y z S) P := by
  refine ⟨_, S, ?_, q⟩
  simp only [fDGet2, hs.get m, hk, Option.map_some]
theorem xo_sortD {lk : Bool} {kvs : List (Nat × D)} {P : List D → Sto → Prop} (hs : Hs S A) (m : (l, MO.dic lk (kvs.map fun q => (DK.i (q.1 : Int), q.2))) ∈ A) (z : kvs.length < 64) (q : P ((srt (kvs.map (·.1))).map fun n : Nat => D.int (n : Int)) S) : W (fSortD [.ref l] S) P := by
  refine ⟨_, S, ?_, q⟩
  simp only [fSortD, hs.get m, keysI_nat, Option.bind_some, List.length_map]
  rw [if_pos z]
  have e := srt_int (kvs.map (·.1))
  rw [List.map_map] at e
  rw [show (kvs.map fun q => (q.1 : Int)) = kvs.map ((fun n : Nat => (n : Int)) ∘ fun q => q.1) from rfl, e, List.map_map]
  rfl
end
end AH
set_option maxRecDepth 100000
set_option maxHeartbeats 4000000
namespace AH
open PySem L2 TL
theorem Pg.zero : Pg p0 := ⟨by decide, nofun, by decide, nofun, nofun, by decide, by decide⟩
theorem HV.st_ps {h : HV} {i : Nat} {p : PV} (e : h.st.ps[i]? = some p) : ∃ l, h.ps[i]? = some (l, p) := by
  have e : (h.ps.map (·.2))[i]? = some p := e
  rw [List.getElem?_map] at e
  obtain ⟨q, e1, e2⟩ := Option.map_eq_some_iff.mp e
  exact ⟨q.1, by rw [e1, ← e2]⟩
theorem HV.st_len {h : HV} : h.st.ps.length = h.ps.length := List.length_map _
section
variable {S : Sto} {A A' X Y : Hm} {l : Nat} {h : HV} {ρ : Rho}
theorem hinit_w {n : Nat} (hs : Hs S ((l, .ins 3 []) :: Y)) (hn : 1 ≤ n ∧ n ≤ 3) : W (F_Hall___init__ [.ref l, .int n] S) fun o S' => o = .v .non ∧ ∃ h : HV, h.lh = l ∧ h.st = ⟨List.replicate n p0, []⟩ ∧ Hs S' (hallA h ++ Y) := by
  refine w_run rfl ?_
  show WS (b_Hall___init__ [.val (.ref l), .val (.int n), .no] S) _
  unfold b_Hall___init__
  fail "STEP"
  refine (isnum_y (by omega)).mono fun o S1 e => ?_
  obtain ⟨rfl, rfl⟩ := e
  fail "STEP"
  refine wl_lc ?_
  fail "STEP"
  refine ⟨by omega, ?_⟩
  refine ⟨fun k out S2 => ∃ ls : List Nat, ls.length = k ∧ out = ls.map D.ref ∧ Hs S2 ((l, .ins 3 []) :: (ls.map (fun l => paneE (l, p0)) ++ Y)), ⟨[], rfl, rfl, hs⟩, ?_, ?_⟩
  · rintro k d out S2 hk ⟨ls, rfl, rfl, hs⟩
    refine ⟨_, rfl, ?_⟩
    fail "STEP"
    refine ⟨nofun, fun _ => ?_⟩
    fail "STEP"
    refine (pinit_w hs (by fail "UDD")).mono fun o S3 e => ?_
    obtain ⟨rfl, hs⟩ := e
    refine ⟨rfl, ls ++ [ln], by simp, by simp, hs.perm ?_⟩
    rw [List.map_append, List.map_cons, List.map_nil]
    show List.Perm (paneE (ln, p0) :: (l, .ins 3 []) :: (ls.map (fun l => paneE (l, p0)) ++ Y)) _
    fail "PRM"
  rintro out S2 ⟨ls, hl, rfl, hs⟩
  rw [rng_len] at hl
  refine ⟨by simp; omega, ?_⟩
  fail "STEP"
  refine ⟨rfl, ⟨l, ln, ls.map fun l => (l, p0), []⟩, rfl, ?_, hs.perm ?_⟩
  · unfold HV.st
    dsimp only
    rw [List.map_map]
    have e : ls.map ((fun q : Nat × PV => q.2) ∘ fun l => (l, p0)) = List.replicate n p0 := by
      rw [show ((fun q : Nat × PV => q.2) ∘ fun l : Nat => (l, p0)) = fun _ => p0 from rfl, List.map_const']
      rw [show ls.length = n by omega]
    rw [e]
    rfl
  · unfold hallA
    dsimp only
    rw [List.map_map, List.map_map, show ((fun q : Nat × PV => D.ref q.1) ∘ fun l : Nat => (l, p0)) = D.ref from rfl, show (paneE ∘ fun l : Nat => (l, p0)) = fun l => paneE (l, p0) from rfl]
    simp only [List.map_nil]
    show List.Perm ((ln, MO.dic false []) :: (l, MO.ins 3 [D.lst (ls.map D.ref), D.ref ln]) :: (ls.map (fun l => paneE (l, p0)) ++ Y)) _
    fail "PRM"
theorem htyped_w {i : Nat} {p : PV} (hs : Hs S A) (sub : ∀ x ∈ hallA h, x ∈ A) (hi : h.st.ps[i]? = some p) (z : h.ps.length ≤ 3) : W (F_Hall_typed [.ref h.lh, .int i] S) fun o S' => o = .f p.notes ∧ S' = S := by
  refine w_run rfl ?_
  show WS (b_Hall_typed [.val (.ref h.lh), .val (.int i)] S) _
  unfold b_Hall_typed
  have mh := sub _ mem_hall
  obtain ⟨lp, h3⟩ := HV.st_ps hi
  have mp := sub _ (mem_pane h3)
  have il := (List.getElem?_eq_some_iff.mp h3).1
  fail "STEP"
  refine (isnum_y (by simp; omega)).mono fun o S1 e => ?_
  obtain ⟨rfl, rfl⟩ := e
  fail "STEP"
  refine wo_ixL (d := .ref lp) (by omega) (by rw [Int.toNat_natCast, List.getElem?_map, h3]; rfl) ?_
  fail "STEP"
  refine (typed_w hs mp).mono fun o S1 e => ?_
  obtain ⟨rfl, rfl⟩ := e
  fail "STEP"
  exact ⟨rfl, rfl⟩
theorem kv_eq {ss : List Sh} : ss.map kvE = (ss.map fun q : Sh => (q.n, D.ref q.l)).map fun q => (DK.i (q.1 : Int), q.2) := by
  rw [List.map_map]
  rfl
theorem names_eq {h : HV} : (h.ss.map fun q : Sh => (q.n, D.ref q.l)).map (·.1) = h.st.ss.map (·.1) := by
  unfold HV.st
  rw [List.map_map, List.map_map]
  rfl
theorem names_get {h : HV} {n : Nat} (hn : n ∈ h.st.names) : ∃ (i : Nat) (q : Sh), h.ss[i]? = some q ∧ q.n = n ∧ sget n h.st.ss = some q.v ∧ dget (h.ss.map kvE) (.i (n : Int)) = some (.ref q.l) := by
  unfold HP.names at hn
  rw [(srt_perm _).mem_iff] at hn
  cases e : sget n h.st.ss with
  | some v =>
    obtain ⟨i, q, h1, h2, h3, h4, _⟩ := sget_at (ss := h.ss) e
    exact ⟨i, q, h1, h2, by rw [h3], h4⟩
  | none =>
    exfalso
    have : ∀ ss : List (Nat × SV), sget n ss = none → n ∉ ss.map (·.1) := fun ss => by
      induction ss with
      | nil => intro _; simp
      | cons q r ih =>
        intro h z
        unfold sget at h
        split at h
        · cases h
        · rename_i ne
          rcases List.mem_cons.mp z with z | z
          · exact ne z.symm
          · exact ih h z
    exact this _ e hn
theorem hlooks_w (hs : Hs S A) (sub : ∀ x ∈ hallA h, x ∈ A) (z : h.ss.length ≤ 4) : W (F_Hall_looks [.ref h.lh] S) fun o S' => o = .f (h.st.pres.map fun q => .tup [.int q.1, .int q.2.s, .int q.2.p]) ∧ S' = S := by
  refine w_run rfl ?_
  show WS (b_Hall_looks [.val (.ref h.lh), .no, .no, .no] S) _
  unfold b_Hall_looks
  have mh := sub _ mem_hall
  have ms := sub _ mem_seats
  have ms2 := ms
  rw [kv_eq] at ms2
  have ln : h.st.names.length ≤ 4 := by
    unfold HP.names
    rw [(srt_perm _).length_eq, List.length_map]
    show (h.ss.map _).length ≤ 4
    simpa using z
  fail "STAY"
  fail "ONE"
  refine xl_lc ?_
  fail "STEP"
  refine xo_sortD hs ms2 (by simp; omega) ?_
  rw [names_eq]
  have sv : ∀ n : Nat, n ∈ h.st.names → ∃ v, sget n h.st.ss = some v := fun n hn => by
    obtain ⟨i, q, _, _, h3, _⟩ := names_get hn
    exact ⟨_, h3⟩
  refine xl_map (xs := h.st.names) (f := fun n : Nat => D.int (n : Int)) (F := fun n : Nat => match sget n h.st.ss with
    | some v => .tup [.int n, .int v.s, .int v.p]
    | none => .non) (fun n hn => ?_) ?_
  · obtain ⟨i, q, h1, h2, h3, h4⟩ := names_get hn
    have mq := sub _ (mem_seat h1)
    refine ⟨_, rfl, ?_⟩
    fail "STEP"
    refine xo_dget hs ms rfl h4 ?_
    fail "STEP"
    refine xo_dget hs ms rfl h4 ?_
    fail "STEP"
    rw [h3]
    exact ⟨rfl, rfl⟩
  refine ⟨by simp; omega, ?_⟩
  fail "STEP"
  refine wl_lc ?_
  fail "STEP"
  refine ⟨fun k out S2 => S2 = S ∧ out.length ≤ k ∧ out = (AH.pres h.st.ss (h.st.names.take k)).map fun q => .tup [.int q.1, .int q.2.s, .int q.2.p], ⟨rfl, Nat.le_refl _, rfl⟩, ?_, ?_⟩
  · rintro k d out S2 hk ⟨rfl, lo, rfl⟩
    rw [List.getElem?_map] at hk
    obtain ⟨n, hn, hd⟩ := Option.map_eq_some_iff.mp hk
    obtain ⟨i, q, h1, h2, h3, h4⟩ := names_get (List.mem_of_getElem? hn)
    have mq := sub _ (mem_seat h1)
    rw [h3] at hd
    subst hd
    have e : AH.pres h.st.ss (h.st.names.take (k + 1)) = AH.pres h.st.ss (h.st.names.take k) ++ (if q.v.here = true then [(n, q.v)] else []) := by
      unfold AH.pres
      rw [List.take_succ, hn, List.filterMap_append]
      congr 1
      show List.filterMap _ [n] = _
      rw [List.filterMap_cons, h3]
      dsimp only [Option.bind_some]
      split <;> simp_all
    refine ⟨_, rfl, ?_⟩
    fail "STEP"
    refine xo_dget hs ms rfl h4 ?_
    fail "STEP"
    rw [List.length_map] at lo
    refine ⟨fun z => ⟨rfl, by simp; omega, ?_⟩, fun z => ?_⟩
    · rw [e, if_neg (by rw [z]; exact Bool.false_ne_true), List.append_nil]
    · fail "STEP"
      refine ⟨rfl, by simp; omega, ?_⟩
      rw [e, if_pos z, List.map_append]
      rfl
  rintro out S2 ⟨rfl, lo, rfl⟩
  refine ⟨by simp only [List.length_map] at lo ⊢; omega, ?_⟩
  fail "STEP"
  refine ⟨?_, rfl⟩
  rw [List.length_map, List.take_length]
  rfl
end
end AH
set_option maxRecDepth 100000
set_option maxHeartbeats 4000000
namespace AH
open PySem L2 TL
/-- signs of a pane -/
structure Px (p : PV) : Prop where
  g : Pg p
  k : ∀ z ∈ p.kept, tx 60 z
  t : tx 60 p.text
  c : ∀ q ∈ p.past, tx 60 q.1 ∧ tx 60 q.2
def some? (p : PV) (k : Option Nat) : Option (List (List Nat × List Nat)) := k.bind fun x => if p.many ≤ x + p.past.length ∧ x ≤ p.many then some (lastN (p.many - x) p.past) else none
def toldP (p : PV) (n : Nat) (v : SV) : HM := match some? p v.k with
  | none => .whole n v.s v.d p.many p.text p.kept
  | some cs => .some n v.s v.d (v.k.getD 0) (cs.take 8)
def HP.told (h : HP) (n : Nat) (v : SV) : HM := toldP ((h.ps[v.p]?).getD p0) n v
def HP.letters (h : HP) : List (Nat × HM) := h.pres.map fun q => (q.1, h.told q.1 q.2)
structure HP.lim (h : HP) : Prop where
  px : ∀ p ∈ h.ps, Px p ∧ p.many < mil
  sv : ∀ q ∈ h.ss, q.2.s < mil ∧ q.2.d < mil ∧ ∀ k, q.2.k = some k → k < mil
theorem told_ok {p : PV} {n : Nat} {v : SV} (g : Px p) (pm : p.many < mil) (hn : n < mil) (hs : v.s < mil) (hd : v.d < mil) (hk : ∀ k, v.k = some k → k < mil) : HMok (toldP p n v) := by
  unfold toldP
  split
  · exact ⟨hn, hs, hd, pm, g.t, g.g.k1, g.k⟩
  · rename_i cs e
    unfold some? at e
    cases ek : v.k with
    | none => rw [ek] at e; cases e
    | some x =>
      rw [ek] at e
      dsimp only [Option.bind_some] at e
      split at e
      · cases e
        refine ⟨hn, hs, hd, hk x ek, by rw [List.length_take]; omega, fun q hq => g.c q (lastN_mem (List.mem_of_mem_take hq))⟩
      · cases e
section
variable {S : Sto} {A A' X Y : Hm} {l : Nat} {h : HV} {ρ : Rho}
theorem sinceZ_is {p : PV} {x : Nat} : sinceZ p x = match some? p (some x) with
    | none => .v .non
    | some cs => .f (cs.map chD) := by
  unfold sinceZ some?
  dsimp only [Option.bind_some]
  by_cases q : p.many ≤ x + p.past.length ∧ x ≤ p.many
  · rw [if_pos q, if_pos (by omega), show ((p.many : Int) - (x : Int)).toNat = p.many - x by omega]
  · rw [if_neg q, if_neg (by omega)]
theorem strM_w {n : Nat} {P : D → Sto → Prop} (h : n < mil) (k : P (.str (numL n)) S) : W (fStr [.int n] S) P := strN_w (Nat.lt_trans h (by decide)) k
def tmD (p : PV) (n : Nat) (v : SV) : List D := (hmF (toldP p n v)).map .str
theorem htold_w {p : PV} {q : Sh} {i : Nat} (hs : Hs S A) (sub : ∀ x ∈ hallA h, x ∈ A) (hq : h.ss[i]? = some q) (hp : h.st.ps[q.v.p]? = some p) (hn : q.n < mil) (h1 : q.v.s < mil) (h2 : q.v.d < mil) (h3 : ∀ k, q.v.k = some k → k < mil) (pm : p.many < mil) (g : Px p) : W (F_Hall_told [.ref h.lh, .int q.n, .ref q.l] S) fun o S' => (o = .v (.lst (tmD p q.n q.v)) ∨ o = .f (tmD p q.n q.v)) ∧ S' = S := by
  refine w_run rfl ?_
  show WS (b_Hall_told [.val (.ref h.lh), .val (.int q.n), .val (.ref q.l), .no, .no, .no, .no, .no, .no] S) _
  unfold b_Hall_told tmD toldP
  have mh := sub _ mem_hall
  have mq := sub _ (mem_seat hq)
  obtain ⟨lp, e3⟩ := HV.st_ps hp
  have mp := sub _ (mem_pane e3)
  have il := (List.getElem?_eq_some_iff.mp e3).1
  have gk := g.g.k1
  fail "STEP"
  refine wo_ixL (d := .ref lp) (by omega) (by rw [Int.toNat_natCast, List.getElem?_map, e3]; rfl) ?_
  fail "STEP"
  refine strM_w (by assumption) ?_
  fail "STEP"
  refine strM_w (by assumption) ?_
  fail "STEP"
  refine strM_w (by assumption) ?_
  fail "STAY"
  fail "ONE"
  rcases hk : q.v.k with _ | x
  · refine ⟨true, rfl, ?_⟩
    unfold some?
    dsimp only [Option.bind_none]
    fail "STEP"
    refine (changes_w hs mp).mono fun o S1 e => ?_
    obtain ⟨rfl, rfl⟩ := e
    fail "STEP"
    refine strM_w (by assumption) ?_
    fail "STEP"
    refine (line_w hs mp).mono fun o S1 e => ?_
    obtain ⟨rfl, rfl⟩ := e
    fail "STEP"
    refine (rows_w hs mp).mono fun o S1 e => ?_
    obtain ⟨rfl, rfl⟩ := e
    fail "STEP"
    exact ⟨.inr rfl, rfl⟩
  · have mq : (q.l, MO.ins 2 [.int q.v.s, .int q.v.p, .int q.v.d, .int x, .bl q.v.here]) ∈ A := by
      have := mq
      unfold seatO seatD at this
      rw [hk] at this
      exact this
    have hx := h3 x hk
    refine ⟨false, rfl, ?_⟩
    fail "STEP"
    refine (since_w hs mp).mono fun o S1 e => ?_
    obtain ⟨rfl, rfl⟩ := e
    rw [sinceZ_is]
    cases es : some? p (some x) with
    | none =>
      fail "STEP"
      refine (changes_w hs mp).mono fun o S1 e => ?_
      obtain ⟨rfl, rfl⟩ := e
      fail "STEP"
      refine strM_w (by assumption) ?_
      fail "STEP"
      refine (line_w hs mp).mono fun o S1 e => ?_
      obtain ⟨rfl, rfl⟩ := e
      fail "STEP"
      refine (rows_w hs mp).mono fun o S1 e => ?_
      obtain ⟨rfl, rfl⟩ := e
      fail "STEP"
      exact ⟨.inr rfl, rfl⟩
    | some cs =>
      fail "STEP"
      refine strM_w (by assumption) ?_
      fail "STAY"
      generalize hcs : cs.take 8 = cs8
      have l8 : cs8.length ≤ 8 := by rw [← hcs, List.length_take]; omega
      refine xs_cut (fun ρ S' => (∃ a b, ρ = [.val (.ref h.lh), .val (.int q.n), .val (.ref q.l), .val (.ref lp), .val (.lst [.str (numL q.n), .str (numL q.v.s), .str (numL q.v.d)]), .val (.lst (cs.map chD)), .val (.lst ((wSome :: numL q.n :: numL q.v.s :: numL q.v.d :: numL x :: csF cs8).map .str)), a, b]) ∧ S' = S1) ?_ ?_
      · fail "STEP"
        rw [show cutL (cs.map chD) none (some 8) = (cs.map chD).take 8 from cut_lo _ 8, ← List.map_take, hcs]
        refine ws_loop (fun k ρ S' => (∃ a b, ρ = [.val (.ref h.lh), .val (.int q.n), .val (.ref q.l), .val (.ref lp), .val (.lst [.str (numL q.n), .str (numL q.v.s), .str (numL q.v.d)]), .val (.lst (cs.map chD)), .val (.lst ((wSome :: numL q.n :: numL q.v.s :: numL q.v.d :: numL x :: csF (cs8.take k)).map .str)), a, b]) ∧ S' = S1) ⟨⟨_, _, rfl⟩, rfl⟩ ?_ ?_
        · rintro k d ρ S2 hk2 ⟨⟨a, b, rfl⟩, rfl⟩
          rw [List.getElem?_map] at hk2
          obtain ⟨c, hc, rfl⟩ := Option.map_eq_some_iff.mp hk2
          have kl := (List.getElem?_eq_some_iff.mp hc).1
          have lc := cs_len (cs := cs8.take k)
          rw [List.length_take] at lc
          unfold chD
          fail "STEP"
          refine ⟨⟨.val (.str c.1), .val (.str c.2), ?_⟩, rfl⟩
          rw [List.take_succ, hc]
          have e : csF (cs8.take k ++ (some c).toList) = csF (cs8.take k) ++ [c.1, c.2] := by
            unfold csF
            rw [List.flatMap_append]
            rfl
          rw [e]
          have e2 : ∀ u v w x y : List Nat, (u :: v :: w :: x :: y :: (csF (cs8.take k) ++ [c.1, c.2])).map D.str = (u :: v :: w :: x :: y :: csF (cs8.take k)).map D.str ++ [.str c.1, .str c.2] := fun u v w x y => by simp
          rw [e2]
          rfl
        · rintro ρ S2 ⟨⟨a, b, rfl⟩, rfl⟩
          refine ⟨rfl, ⟨a, b, ?_⟩, rfl⟩
          rw [List.length_map, List.take_length]
      · rintro ρ S2 ⟨⟨a, b, rfl⟩, rfl⟩
        fail "STEP"
        refine ⟨.inl ?_, rfl⟩
        dsimp only
        rw [hcs]
        rfl
theorem HP.ok.get {h : HP} (g : h.ok) {n : Nat} {v : SV} (e : sget n h.ss = some v) : n ≤ 3 ∧ ∃ p, h.ps[v.p]? = some p := by
  have m := sget_mem e
  refine ⟨g.n3 _ m, ?_⟩
  have := g.sp _ m
  exact ⟨_, List.getElem?_eq_getElem this⟩
theorem hlets_w (hs : Hs S A) (sub : ∀ x ∈ hallA h, x ∈ A) (g : h.st.ok) (b : h.st.lim) : W (F_Hall_letters [.ref h.lh] S) fun o S' => o = .f (h.st.letters.map fun q => .tup [.int q.1, .str (hmT q.2)]) ∧ S' = S := by
  refine w_run rfl ?_
  show WS (b_Hall_letters [.val (.ref h.lh), .no, .no, .no] S) _
  unfold b_Hall_letters
  have mh := sub _ mem_hall
  have ms := sub _ mem_seats
  have ms2 := ms
  rw [kv_eq] at ms2
  have z : h.ss.length ≤ 4 := by
    have := g.len
    unfold HV.st at this
    simpa using this
  have ln : h.st.names.length ≤ 4 := by
    unfold HP.names
    rw [(srt_perm _).length_eq, List.length_map]
    show (h.ss.map _).length ≤ 4
    simpa using z
  fail "STEP"
  refine xo_sortD hs ms2 (by simp; omega) ?_
  rw [names_eq]
  refine ws_loop (fun k ρ S' => (∃ a b, ρ = [.val (.ref h.lh), .acc ((AH.pres h.st.ss (h.st.names.take k)).map fun q => .tup [.int q.1, .str (hmT (h.st.told q.1 q.2))]), a, b]) ∧ S' = S) ⟨⟨_, _, rfl⟩, rfl⟩ ?_ ?_
  · rintro k d ρ S2 hk ⟨⟨a, c, rfl⟩, rfl⟩
    rw [List.getElem?_map] at hk
    obtain ⟨n, hn, rfl⟩ := Option.map_eq_some_iff.mp hk
    have hn : h.st.names[k]? = some n := hn
    obtain ⟨i, q, h1, h2, h3, h4⟩ := names_get (List.mem_of_getElem? hn)
    subst h2
    have mq := sub _ (mem_seat h1)
    have lz : ((AH.pres h.st.ss (h.st.names.take k)).map fun q => D.tup [.int q.1, .str (hmT (h.st.told q.1 q.2))]).length < 16777216 := by
      rw [List.length_map]
      unfold AH.pres
      refine Nat.lt_of_le_of_lt (List.length_filterMap_le _ _) ?_
      rw [List.length_take]
      omega
    have e : AH.pres h.st.ss (h.st.names.take (k + 1)) = AH.pres h.st.ss (h.st.names.take k) ++ (if q.v.here = true then [(q.n, q.v)] else []) := by
      unfold AH.pres
      rw [List.take_succ, hn, List.filterMap_append]
      congr 1
      show List.filterMap _ [q.n] = _
      rw [List.filterMap_cons, h3]
      dsimp only [Option.bind_some]
      split <;> simp_all
    fail "STEP"
    refine xo_dget hs ms rfl h4 ?_
    fail "STEP"
    refine Br.b (fun t => ?_) (fun t => ?_)
    · obtain ⟨n3, p, hp⟩ := g.get h3
      have b1 := b.sv _ (sget_mem h3)
      have b2 := b.px p (List.mem_of_getElem? hp)
      have et : h.st.told q.n q.v = toldP p q.n q.v := by
        unfold HP.told
        rw [hp]
        rfl
      have n4 : q.n < mil := by show q.n < 1000000; omega
      have ok := told_ok b2.1 b2.2 n4 b1.1 b1.2.1 b1.2.2
      fail "STEP"
      refine (htold_w hs sub h1 hp n4 b1.1 b1.2.1 b1.2.2 b2.2 b2.1).mono fun o S1 e => ?_
      rcases e with ⟨rfl | rfl, rfl⟩
      all_goals
        fail "STEP"
        refine (packed_ok (fs := hmF (toldP p q.n q.v)) rfl ((hm_fs ok).mono (by decide))).mono fun o S1 e => ?_
        obtain ⟨rfl, rfl⟩ := e
        fail "STEP"
        refine ⟨lz, ?_⟩
        fail "STEP"
        refine ⟨⟨.val (.int q.n), .val (.ref q.l), ?_⟩, rfl⟩
        rw [e, if_pos t, List.map_append, List.map_cons, et]
        rfl
    · fail "STEP"
      refine ⟨⟨.val (.int q.n), .val (.ref q.l), ?_⟩, rfl⟩
      rw [e, if_neg (by rw [t]; exact Bool.false_ne_true), List.append_nil]
      rfl
  · rintro ρ S2 ⟨⟨a, c, rfl⟩, rfl⟩
    fail "STEP"
    refine ⟨?_, rfl⟩
    unfold HP.letters HP.pres
    rw [List.length_map, show (srt (h.st.ss.map (·.1))).length = h.st.names.length from rfl, List.take_length, List.map_map]
    rfl
end
end AH
set_option maxRecDepth 100000
set_option maxHeartbeats 4000000
namespace AH
open PySem L2 TL
abbrev noteD (n s c : Nat) : D := .tup [.int n, .int s, .str [c]]
def stp (n s : Nat) (x : PV × Nat × Nat) (c : Nat) : PV × Nat × Nat := if x.2.2 = x.2.1 then (pressV x.1 (noteD n s c) c, x.2.1 + 1, x.2.2 + 1) else (x.1, x.2.1, x.2.2 + 1)
def tkz (n s : Nat) (p : PV) (d f : Nat) (z : List Nat) : PV × Nat × Nat := z.foldl (stp n s) (p, d, f)
def mxk (a : Option Nat) : Option Nat → Option Nat
  | none => a
  | some x => match a with
    | none => some x
    | some y => if y < x then some x else a
def SV.new (s p : Nat) : SV := ⟨s, p, 0, none, true⟩
def LM.n : LM → Nat
  | .at n _ _ _ _ _ => n
  | .gone n _ _ => n
def LM.s : LM → Nat
  | .at _ s _ _ _ _ => s
  | .gone _ s _ => s
def LM.p : LM → Nat
  | .at _ _ p _ _ _ => p
  | .gone _ _ p => p
def HP.take (h : HP) (n : Nat) (v : SV) (k : Option Nat) (f : Nat) (z : List Nat) : HP :=
  ⟨h.ps.set v.p (tkz n v.s ((h.ps[v.p]?).getD p0) v.d f z).1, sput n { v with k := mxk v.k k, d := (tkz n v.s ((h.ps[v.p]?).getD p0) v.d f z).2.1 } h.ss⟩
def HP.sat (h : HP) (m : LM) : SV := match sget m.n h.ss with
  | some v => if v.s < m.s then .new m.s m.p else v
  | none => .new m.s m.p
def HP.hear (h : HP) (m : LM) : HP :=
  if h.ps.length ≤ m.p then h else
  if m.s < (h.sat m).s ∨ (h.sat m).here = false then { h with ss := sput m.n (h.sat m) h.ss } else
  match m with
  | .gone n _ _ => { h with ss := sput n { h.sat m with here := false } h.ss }
  | .at n _ _ k f z => h.take n (h.sat m) k f z
section
variable {S : Sto} {A A' X Y : Hm} {l : Nat} {h : HV} {ρ : Rho}
theorem set_id {α : Type} {xs : List α} {i : Nat} {a : α} (h : xs[i]? = some a) : xs.set i a = xs := by
  obtain ⟨l, rfl⟩ := List.getElem?_eq_some_iff.mp h
  exact List.set_getElem_self l
theorem nk_q {k : Option Nat} : decide (nkF k = [63]) = decide (k = none) := by
  cases k with
  | none => rfl
  | some x =>
    have e1 : decide (some x = none) = false := decide_eq_false nofun
    rw [e1]
    refine decide_eq_false fun e => ?_
    have : (63 : Nat) ∈ numL x := by
      have e : numL x = [63] := e
      rw [e]
      simp
    have := dg_iff.mp (numL_dg this)
    omega
theorem htake_w {p : PV} {q : Sh} {i lp f : Nat} {k : Option Nat} {z : List Nat} (hs : Hs S (hallA h ++ Y)) (hq : h.ss[i]? = some q) (hp : h.ps[q.v.p]? = some (lp, p)) (g : Pg p) (hk : ∀ x, k = some x → x < mil) (hf : f < mil) (hz : z.length ≤ 1000 ∧ ∀ c ∈ z, c ∈ an) :
    W (F_Hall_take [.ref h.lh, .int q.n, .ref q.l, .lst [.str (nkF k), .str (numL f), .str z]] S) fun o S' => o = .v .non ∧ Hs S' (hallA ((h.setP q.v.p lp (tkz q.n q.v.s p q.v.d f z).1).setS i { q with v := { q.v with k := mxk q.v.k k, d := (tkz q.n q.v.s p q.v.d f z).2.1 } }) ++ Y) ∧ Pg (tkz q.n q.v.s p q.v.d f z).1 := by
  refine w_run rfl ?_
  show WS (b_Hall_take [.val (.ref h.lh), .val (.int q.n), .val (.ref q.l), .val (.lst [.str (nkF k), .str (numL f), .str z]), .no, .no, .no] S) _
  unfold b_Hall_take
  refine xs_cut (fun ρ S' => ρ = [.val (.ref h.lh), .val (.int q.n), .val (.ref q.l), .val (.lst [.str (nkF k), .str (numL f), .str z]), .val (numD k), .no, .no] ∧ S' = S) ?_ ?_
  · fail "STEP"
    rw [show decide (nkF k = [63]) = decide (k = none) from nk_q]
    refine Br.d (fun e => ?_) (fun e => ?_)
    · fail "STEP"
      refine ⟨rfl, ?_, rfl⟩
      rw [e]
      rfl
    · cases k with
      | none => exact absurd rfl e
      | some x =>
        fail "STEP"
        refine (num_w (hk x rfl)).mono fun o S1 e => ?_
        obtain ⟨rfl, rfl⟩ := e
        fail "STEP"
        exact ⟨rfl, rfl, rfl⟩
  rintro ρ S' ⟨rfl, rfl⟩
  have mq : (q.l, seatO q.v) ∈ hallA h ++ Y := List.mem_append_left _ (mem_seat hq)
  refine xs_cut (fun ρ S' => ρ = [.val (.ref h.lh), .val (.int q.n), .val (.ref q.l), .val (.lst [.str (nkF k), .str (numL f), .str z]), .val (numD k), .no, .no] ∧ Hs S' (hallA (h.setS i { q with v := { q.v with k := mxk q.v.k k } }) ++ Y)) ?_ ?_
  · have u : ∀ v', Ud (hallA h ++ Y) q.l (seatO q.v) (seatO v') (hallA (h.setS i { q with v := v' }) ++ Y) := fun v' => .lf (ud_seat hq)
    have same : h.setS i { q with v := q.v } = h := by
      unfold HV.setS
      have e : h.ss.set i q = h.ss := set_id hq
      rw [show ({ q with v := q.v } : Sh) = q from rfl, e]
    fail "STEP"
    cases k with
    | none =>
      refine ⟨true, rfl, ?_⟩
      fail "STEP"
      refine ⟨rfl, rfl, ?_⟩
      show Hs S' (hallA (h.setS i { q with v := q.v }) ++ Y)
      rw [same]
      exact hs
    | some x =>
      refine ⟨false, rfl, ?_⟩
      fail "STEP"
      refine ⟨_, isNon_num, ?_⟩
      have fin : ∀ {S' : Sto}, Hs S' (hallA h ++ Y) → mxk q.v.k (some x) = some x → WS (sPutF 2 3 (eVar 2) (eVar 4) [.val (.ref h.lh), .val (.int q.n), .val (.ref q.l), .val (.lst [.str (nkF (some x)), .str (numL f), .str z]), .val (numD (some x)), .no, .no] S') (fun fl ρ S' => fl = .nx ∧ ρ = [.val (.ref h.lh), .val (.int q.n), .val (.ref q.l), .val (.lst [.str (nkF (some x)), .str (numL f), .str z]), .val (numD (some x)), .no, .no] ∧ Hs S' (hallA (h.setS i { q with v := { q.v with k := mxk q.v.k (some x) } }) ++ Y)) := by
        intro S' hs e
        have u := u { q.v with k := some x }
        rw [e]
        fail "STEP"
        exact ⟨rfl, rfl, hs⟩
      fail "STEP"
      refine Br.d (fun e => ?_) (fun e => ?_)
      · refine Br.t (fin hs ?_)
        rw [e]
        rfl
      · cases ek : q.v.k with
        | none => exact absurd ek e
        | some y =>
          fail "STEP"
          show W (fGt _ (numD q.v.k) S') _
          rw [ek]
          show W (fGt (.int (x : Int)) (.int (y : Int)) S') _
          fail "STEP"
          refine Br.d (fun e => ?_) (fun e => ?_)
          · have := fin hs (by rw [ek]; exact if_pos (by omega))
            rw [ek] at this
            exact this
          · fail "STEP"
            refine ⟨rfl, rfl, ?_⟩
            rw [show mxk (some y) (some x) = some y from by show (if y < x then some x else some y) = _; exact if_neg (fun z => e (by omega)), ← ek]
            show Hs S' (hallA (h.setS i { q with v := q.v }) ++ Y)
            rw [same]
            exact hs
  rintro ρ S2 ⟨rfl, hs⟩
  generalize mxk q.v.k k = k2 at hs ⊢
  have il : i < h.ss.length := (List.getElem?_eq_some_iff.mp hq).1
  have pl : q.v.p < h.ps.length := (List.getElem?_eq_some_iff.mp hp).1
  fail "STEP"
  refine (num_w hf).mono fun o S1 e => ?_
  obtain ⟨rfl, rfl⟩ := e
  fail "STEP"
  refine ws_loop (fun j ρ S' => (∃ a, ρ = [.val (.ref h.lh), .val (.int q.n), .val (.ref q.l), .val (.lst [.str (nkF k), .str (numL f), .str z]), .val (numD k), .val (.int (tkz q.n q.v.s p q.v.d f (z.take j)).2.2), a]) ∧ Hs S' (hallA ((h.setP q.v.p lp (tkz q.n q.v.s p q.v.d f (z.take j)).1).setS i { q with v := { q.v with k := k2, d := (tkz q.n q.v.s p q.v.d f (z.take j)).2.1 } }) ++ Y) ∧ Pg (tkz q.n q.v.s p q.v.d f (z.take j)).1) ⟨⟨_, rfl⟩, ?_, g⟩ ?_ ?_
  · have same : h.setP q.v.p lp p = h := by
      unfold HV.setP
      have e : h.ps.set q.v.p (lp, p) = h.ps := set_id hp
      rw [e]
    show Hs S1 (hallA ((h.setP q.v.p lp p).setS i { q with v := { q.v with k := k2, d := q.v.d } }) ++ Y)
    rw [same]
    exact hs
  · rintro j d ρ S3 hj ⟨⟨a, rfl⟩, hs, g⟩
    obtain ⟨c, hc, rfl⟩ := chars_get hj
    have ts : tkz q.n q.v.s p q.v.d f (z.take (j + 1)) = stp q.n q.v.s (tkz q.n q.v.s p q.v.d f (z.take j)) c := by
      unfold tkz
      rw [List.take_succ, hc, List.foldl_append]
      rfl
    rw [ts]
    generalize tkz q.n q.v.s p q.v.d f (z.take j) = r at hs g ⊢
    obtain ⟨p1, d1, f1⟩ := r
    generalize eH : (h.setP q.v.p lp p1).setS i { q with v := { q.v with k := k2, d := d1 } } = h1 at hs ⊢
    have hq1 : h1.ss[i]? = some { q with v := { q.v with k := k2, d := d1 } } := by
      rw [← eH]
      exact List.getElem?_set_self il
    have hp1 : h1.ps[q.v.p]? = some (lp, p1) := by
      rw [← eH]
      exact List.getElem?_set_self pl
    have elh : h1.lh = h.lh := by rw [← eH]; rfl
    have mh : (h.lh, MO.ins 3 [.lst (h1.ps.map fun q => D.ref q.1), .ref h1.ls]) ∈ hallA h1 := by
      rw [← elh]
      exact mem_hall
    have mq1 := mem_seat hq1
    have mp1 := mem_pane hp1
    unfold stp
    dsimp only at hs g hq1 mq1 ⊢
    fail "STEP"
    refine Br.d (fun t => ?_) (fun t => ?_)
    · have t : (f1 : Int) = (d1 : Int) := t
      have t : f1 = d1 := by omega
      subst t
      rw [if_pos rfl]
      have up : ∀ v', Ud (hallA h1 ++ Y) lp (.ins 0 (paneD p1)) (.ins 0 (paneD v')) (hallA (h1.setP q.v.p lp v') ++ Y) := fun v' => .lf (ud_pane hp1)
      fail "STEP"
      refine wo_ixL (d := .ref lp) (by omega) (by rw [Int.toNat_natCast, List.getElem?_map, hp1]; rfl) ?_
      fail "STEP"
      refine (press_w hs (up _) g (hz.2 c (List.mem_of_getElem? hc))).mono fun o S4 e => ?_
      obtain ⟨rfl, hs, g⟩ := e
      have hq2 : (h1.setP q.v.p lp (pressV p1 (noteD q.n q.v.s c) c)).ss[i]? = some { q with v := { q.v with k := k2, d := f1 } } := hq1
      have mq2 := mem_seat hq2
      have us := fun v' => (Ud.lf (ud_seat hq2 (v' := v')) : Ud (_ ++ Y) _ _ _ _)
      have us := us { q.v with k := k2, d := f1 + 1 }
      fail "STEP"
      refine ⟨⟨.val (.str [c]), rfl⟩, ?_, g⟩
      have e : ((h.setP q.v.p lp p1).setS i { q with v := { q.v with k := k2, d := f1 } }).setP q.v.p lp (pressV p1 (noteD q.n q.v.s c) c) = h1.setP q.v.p lp (pressV p1 (noteD q.n q.v.s c) c) := by rw [eH]
      have e2 : ∀ (v' : SV) (p' : PV), (((h.setP q.v.p lp p1).setS i { q with v := { q.v with k := k2, d := f1 } }).setP q.v.p lp p').setS i { q with v := v' } = (h.setP q.v.p lp p').setS i { q with v := v' } := fun v' p' => by
        unfold HV.setS HV.setP
        dsimp only
        rw [List.set_set, List.set_set]
      rw [← eH] at hs
      have hs := hs
      rw [e2] at hs
      exact hs
    · have t : ¬ (f1 : Int) = (d1 : Int) := t
      have t : ¬ f1 = d1 := by omega
      rw [if_neg t]
      fail "STEP"
      refine ⟨⟨.val (.str [c]), ?_⟩, ?_, g⟩
      · rfl
      · rw [eH]
        exact hs
  · rintro ρ S3 ⟨⟨a, rfl⟩, hs, g⟩
    rw [chars_len, List.take_length] at hs g
    fail "STEP"
    exact ⟨rfl, hs, g⟩
end
end AH
set_option maxRecDepth 100000
set_option maxHeartbeats 4000000
namespace AH
open PySem L2 TL
theorem sput_keys {n : Nat} {v : SV} : ∀ {ss : List (Nat × SV)}, (sput n v ss).map (·.1) = if n ∈ ss.map (·.1) then ss.map (·.1) else ss.map (·.1) ++ [n]
  | [] => by simp [sput]
  | q :: r => by
    unfold sput
    by_cases e : q.1 = n
    · rw [if_pos e, if_pos (by rw [← e]; simp), List.map_cons, List.map_cons, e]
    · rw [if_neg e, List.map_cons, sput_keys]
      by_cases c : n ∈ r.map (·.1)
      · rw [if_pos c, if_pos (by rw [List.map_cons]; exact List.mem_cons_of_mem _ c), List.map_cons]
      · rw [if_neg c, if_neg (by rw [List.map_cons]; exact fun z => (List.mem_cons.mp z).elim (fun z => e z.symm) c), List.map_cons, List.cons_append]
theorem sput_mem {n : Nat} {v : SV} : ∀ {ss : List (Nat × SV)} {q : Nat × SV}, q ∈ sput n v ss → q = (n, v) ∨ q ∈ ss
  | [], q, h => by
    simp [sput] at h
    exact .inl h
  | r :: rs, q, h => by
    unfold sput at h
    split at h
    · rcases List.mem_cons.mp h with h | h
      · exact .inl h
      · exact .inr (List.mem_cons_of_mem _ h)
    · rcases List.mem_cons.mp h with h | h
      · exact .inr (by rw [h]; exact List.mem_cons_self)
      · rcases sput_mem h with h | h
        · exact .inl h
        · exact .inr (List.mem_cons_of_mem _ h)
theorem hear_far {h : HP} {m : LM} (e : h.ps.length ≤ m.p) : h.hear m = h := if_pos e
theorem hear_over {h : HP} {m : LM} (e : ¬ h.ps.length ≤ m.p) (c : m.s < (h.sat m).s ∨ (h.sat m).here = false) : h.hear m = ⟨h.ps, sput m.n (h.sat m) h.ss⟩ := by
  unfold HP.hear
  rw [if_neg e, if_pos c]
theorem hear_gone {h : HP} {n s p : Nat} (e : ¬ h.ps.length ≤ p) (c : ¬ (s < (h.sat (.gone n s p)).s ∨ (h.sat (.gone n s p)).here = false)) : h.hear (.gone n s p) = ⟨h.ps, sput n { h.sat (.gone n s p) with here := false } h.ss⟩ := by
  unfold HP.hear
  rw [if_neg (show ¬ h.ps.length ≤ (LM.gone n s p).p from e), if_neg (show ¬ ((LM.gone n s p).s < _ ∨ _) from c)]
theorem hear_at {h : HP} {n s p : Nat} {k : Option Nat} {f : Nat} {z : List Nat} (e : ¬ h.ps.length ≤ p) (c : ¬ (s < (h.sat (.at n s p k f z)).s ∨ (h.sat (.at n s p k f z)).here = false)) : h.hear (.at n s p k f z) = h.take n (h.sat (.at n s p k f z)) k f z := by
  unfold HP.hear
  rw [if_neg (show ¬ h.ps.length ≤ (LM.at n s p k f z).p from e), if_neg (show ¬ ((LM.at n s p k f z).s < _ ∨ _) from c)]
theorem HP.ok.sat_p {h : HP} (g : h.ok) {m : LM} (e : ¬ h.ps.length ≤ m.p) : (h.sat m).p < h.ps.length := by
  unfold HP.sat
  cases eg : sget m.n h.ss with
  | none => show m.p < _; omega
  | some v =>
    dsimp only
    split
    · show m.p < _; omega
    · exact g.sp _ (sget_mem eg)
theorem perm_set {α : Type} {f : α → Nat × MO} {a b : α} : ∀ {xs : List α} {i : Nat}, xs[i]? = some a → (f b :: xs.map f).Perm (f a :: (xs.set i b).map f)
  | [], _, h => by simp at h
  | x :: xs, 0, h => by
    rw [List.getElem?_cons_zero] at h
    cases h
    rw [List.set_cons_zero, List.map_cons, List.map_cons]
    exact List.Perm.swap _ _ _
  | x :: xs, i + 1, h => by
    rw [List.getElem?_cons_succ] at h
    rw [List.set_cons_succ, List.map_cons, List.map_cons]
    exact (List.Perm.swap _ _ _).trans ((List.Perm.cons _ (perm_set h)).trans (List.Perm.swap _ _ _))
section
variable {S : Sto} {A A' X Y : Hm} {l : Nat} {h : HV} {ρ : Rho}
theorem wg_un {n : Nat} {hh : EvGs} {ds : List D} {P : Rho → Sto → Prop} (l : ds.length = n) (k : W (hh ds ρ S) P) : W (gUn n hh (.lst ds) ρ S) P := by
  obtain ⟨a, b, e, p⟩ := k
  refine ⟨a, b, ?_, p⟩
  unfold gUn
  rw [show lstOf S (.lst ds) = some ds from rfl]
  show (if ds.length = n then _ else _) = _
  rw [if_pos l]
  exact e
theorem seatinit_w {s p : Nat} (hs : Hs S A) (u : Ud A l (.ins 2 []) (seatO (.new s p)) A') : W (F_Seat___init__ [.ref l, .int s, .int p] S) fun o S' => o = .v .non ∧ Hs S' A' := by
  obtain ⟨X, Y, rfl, rfl⟩ := u.out
  refine w_run rfl ?_
  show WS (b_Seat___init__ [.val (.ref l), .val (.int s), .val (.int p)] S) _
  unfold b_Seat___init__
  fail "STEP"
  exact ⟨rfl, hs⟩
theorem hhear_w {m : LM} (hs : Hs S (hallA h ++ Y)) (g : h.st.ok) (ok : LMok m) : W (F_Hall_hear [.ref h.lh, .str (lmT m)] S) fun o S' => o = .v .non ∧ ∃ h' : HV, h'.lh = h.lh ∧ h'.st = h.st.hear m ∧ Hs S' (hallA h' ++ Y) := by
  refine w_run rfl ?_
  show WS (b_Hall_hear [.val (.ref h.lh), .val (.str (lmT m)), .no, .no, .no, .no, .no, .no] S) _
  unfold b_Hall_hear
  obtain ⟨w, rest, eF, hw, h1, h2, h3⟩ : ∃ w rest, lmF m = w :: numL m.n :: numL m.s :: numL m.p :: rest ∧ ((w = wAt ∧ ∃ n s p k f z, m = .at n s p k f z) ∨ (w = wGone ∧ ∃ n s p, m = .gone n s p)) ∧ m.n < mil ∧ m.s < mil ∧ m.p < mil := by
    cases m with
    | «at» n s p k f z => exact ⟨_, _, rfl, .inl ⟨rfl, _, _, _, _, _, _, rfl⟩, ok.1, ok.2.1, ok.2.2.1⟩
    | gone n s p => exact ⟨_, _, rfl, .inr ⟨rfl, _, _, _, rfl⟩, ok.1, ok.2.1, ok.2.2⟩
  have hw2 : w ∈ [wAt, wGone] := by rcases hw with h | h <;> simp [h.1]
  have mh : (h.lh, MO.ins 3 [.lst (h.ps.map fun q => D.ref q.1), .ref h.ls]) ∈ hallA h ++ Y := List.mem_append_left _ mem_hall
  have ms : (h.ls, MO.dic false (h.ss.map kvE)) ∈ hallA h ++ Y := List.mem_append_left _ mem_seats
  have lss : h.ss.length ≤ 4 := by
    have := g.len
    unfold HV.st at this
    simpa using this
  fail "STAY"
  fail "ONE"
  refine (lm_unp ok).mono fun o S1 e => ?_
  obtain ⟨rfl, rfl⟩ := e
  fail "STAY"
  rw [eF]
  fail "STEP"
  refine wo_ninT (zs := [wAt, wGone]) ?_
  rw [decide_eq_true hw2]
  fail "STEP"
  refine xl_lc ?_
  fail "STEP"
  have e14 : ∀ a b c d : List Nat, cutL ((a :: b :: c :: d :: rest).map D.str) (some 1) (some 4) = [.str b, .str c, .str d] := fun a b c d => cut_mid _ 1 4
  rw [e14]
  fail "STEP"
  refine (num_w h1).mono fun o S2 e => ?_
  obtain ⟨rfl, rfl⟩ := e
  fail "STEP"
  refine (num_w h2).mono fun o S3 e => ?_
  obtain ⟨rfl, rfl⟩ := e
  fail "STEP"
  refine (num_w h3).mono fun o S4 e => ?_
  obtain ⟨rfl, rfl⟩ := e
  fail "STEP"
  refine wg_un rfl ?_
  fail "STAY"
  fail "ONE"
  have el : (((h.ps.map fun q => D.ref q.1).length : Nat) : Int) = (h.st.ps.length : Nat) := by
    unfold HV.st
    simp
  rw [el]
  refine Br.d (fun z => ?_) (fun z => ?_)
  · fail "STEP"
    refine ⟨rfl, h, rfl, ?_, hs⟩
    rw [hear_far (by omega)]
  have ip : ¬ h.st.ps.length ≤ m.p := by omega
  fail "STAY"
  refine xs_cut (fun ρ S' => ρ = [.val (.ref h.lh), .val (.str (lmT m)), .val (.lst ((w :: numL m.n :: numL m.s :: numL m.p :: rest).map .str)), .val (.int m.n), .val (.int m.s), .val (.int m.p), .no, .val ((dget (h.ss.map kvE) (.i (m.n : Int))).getD .non)] ∧ S' = S4) ?_ ?_
  · fail "STEP"
    refine xo_dget2 hs ms rfl ?_
    fail "STEP"
    exact ⟨rfl, rfl, rfl⟩
  rintro ρ S5 ⟨rfl, rfl⟩
  refine xs_cut (fun ρ S' => ∃ (h1 : HV) (i : Nat) (q : Sh), ρ = [.val (.ref h.lh), .val (.str (lmT m)), .val (.lst ((w :: numL m.n :: numL m.s :: numL m.p :: rest).map .str)), .val (.int m.n), .val (.int m.s), .val (.int m.p), .no, .val (.ref q.l)] ∧ h1.lh = h.lh ∧ h1.ps = h.ps ∧ h1.ss[i]? = some q ∧ q.n = m.n ∧ q.v = h.st.sat m ∧ (∀ v', sput m.n v' h.st.ss = (h1.ss.set i { q with v := v' }).map Sh.nv) ∧ Hs S' (hallA h1 ++ Y)) ?_ ?_
  · skip
    cases eg : sget m.n h.st.ss with
    | none =>
      obtain ⟨g1, g2, g3⟩ := sget_no (ss := h.ss) eg
      have esat : h.st.sat m = .new m.s m.p := by unfold HP.sat; rw [eg]
      rw [g1, Option.getD_none]
      fail "STEP"
      refine (seatinit_w hs (by fail "UDD")).mono fun o S6 e => ?_
      obtain ⟨rfl, hs⟩ := e
      have mh : (h.lh, MO.ins 3 [.lst (h.ps.map fun q => D.ref q.1), .ref h.ls]) ∈ (ln, seatO (.new m.s m.p)) :: (hallA h ++ Y) := List.mem_cons_of_mem _ mh
      refine ⟨rfl, ?_⟩
      fail "STEP"
      rw [g3] at hs
      refine ⟨rfl, { h with ss := h.ss ++ [⟨m.n, ln, .new m.s m.p⟩] }, h.ss.length, ⟨m.n, ln, .new m.s m.p⟩, rfl, rfl, rfl, by simp, rfl, esat.symm, fun v' => ?_, hs.perm (A := (ln, seatO (.new m.s m.p)) :: ((h.lh, .ins 3 [.lst (h.ps.map fun q => D.ref q.1), .ref h.ls]) :: (h.ls, .dic false (h.ss.map kvE ++ [(.i (m.n : Int), .ref ln)])) :: (h.ps.map paneE ++ h.ss.map seatE) ++ Y)) ?_⟩
      · rw [show h.st.ss = h.ss.map Sh.nv from rfl, g2]
        simp [Sh.nv]
      · unfold hallA
        dsimp only
        rw [List.map_append, List.map_append]
        simp only [List.map_cons, List.map_nil]
        show List.Perm _ ((h.lh, MO.ins 3 [.lst (h.ps.map fun q => D.ref q.1), .ref h.ls]) :: (h.ls, .dic false (h.ss.map kvE ++ [(.i (m.n : Int), .ref ln)])) :: (h.ps.map paneE ++ (h.ss.map seatE ++ [(ln, seatO (.new m.s m.p))])) ++ Y)
        fail "PRM"
    | some v =>
      obtain ⟨i, q, e1, e2, e3, e4, e5⟩ := sget_at (ss := h.ss) eg
      have mq : (q.l, seatO q.v) ∈ hallA h ++ Y := List.mem_append_left _ (mem_seat e1)
      rw [e4, Option.getD_some]
      fail "STEP"
      refine Br.d (fun z => ?_) (fun z => ?_)
      · have esat : h.st.sat m = .new m.s m.p := by
          unfold HP.sat
          rw [eg]
          dsimp only
          rw [if_pos (by rw [← e3]; omega)]
        fail "STEP"
        refine (seatinit_w hs (by fail "UDD")).mono fun o S6 e => ?_
        obtain ⟨rfl, hs⟩ := e
        have mh : (h.lh, MO.ins 3 [.lst (h.ps.map fun q => D.ref q.1), .ref h.ls]) ∈ (ln, seatO (.new m.s m.p)) :: (hallA h ++ Y) := List.mem_cons_of_mem _ mh
        refine ⟨rfl, ?_⟩
        fail "STEP"
        have nd : (h.ss.map (·.n)).Nodup := by
          have := g.nd
          rw [show h.st.ss = h.ss.map Sh.nv from rfl, List.map_map] at this
          exact this
        rw [dput_at nd e1 e2 (.new m.s m.p)] at hs
        have il := (List.getElem?_eq_some_iff.mp e1).1
        refine ⟨rfl, { h with ss := h.ss.set i ⟨m.n, ln, .new m.s m.p⟩ }, i, ⟨m.n, ln, .new m.s m.p⟩, rfl, rfl, rfl, List.getElem?_set_self il, rfl, esat.symm, fun v' => ?_, Hs.tail (p := seatE q) (hs.perm (A := (ln, seatO (.new m.s m.p)) :: ((h.lh, .ins 3 [.lst (h.ps.map fun q => D.ref q.1), .ref h.ls]) :: (h.ls, .dic false ((h.ss.set i ⟨m.n, ln, .new m.s m.p⟩).map kvE)) :: (h.ps.map paneE ++ h.ss.map seatE) ++ Y)) ?_)⟩
        · rw [show h.st.ss = h.ss.map Sh.nv from rfl, e5, List.set_set, List.map_set, List.map_set]
          congr 1
          show (q.n, v') = (m.n, v')
          rw [e2]
        · unfold hallA
          dsimp only
          have p : List.Perm ((ln, seatO (.new m.s m.p)) :: h.ss.map seatE) _ := perm_set (f := seatE) (b := ⟨m.n, ln, .new m.s m.p⟩) e1
          classical
          refine perm_cnt fun x => ?_
          have p := p.count_eq x
          simp only [List.count_append, List.count_cons, List.count_nil] at p ⊢
          omega
      · have esat : h.st.sat m = v := by
          unfold HP.sat
          rw [eg]
          dsimp only
          rw [if_neg (by rw [← e3]; omega)]
        fail "STEP"
        refine ⟨rfl, h, i, q, rfl, rfl, rfl, e1, e2, by rw [esat, e3], e5, hs⟩
  have m1 := h1
  clear h1
  rintro ρ S6 ⟨h1, i, q, rfl, f1, f2, f3, f4, f5, f6, hs⟩
  have mq := List.mem_append_left Y (mem_seat f3)
  have h1s : q.n = m.n := f4
  have stay : sput m.n (h.st.sat m) h.st.ss = h1.st.ss := by
    rw [f6, show ({ q with v := h.st.sat m } : Sh) = q by rw [← f5], set_id f3]
    rfl
  have fps : h1.st.ps = h.st.ps := by
    unfold HV.st
    rw [f2]
  have fin0 : m.s < (h.st.sat m).s ∨ (h.st.sat m).here = false → ∃ h' : HV, h'.lh = h.lh ∧ h'.st = h.st.hear m ∧ Hs S6 (hallA h' ++ Y) := fun c => by
    rw [hear_over ip c, stay, ← fps]
    exact ⟨h1, f1, rfl, hs⟩
  fail "STEP"
  rw [f5]
  refine Br.d (fun z => ?_) (fun z => ?_)
  · fail "STEP"
    exact ⟨rfl, fin0 (.inl (by omega))⟩
  have z1 : ¬ m.s < (h.st.sat m).s := by omega
  fail "STEP"
  rw [f5]
  refine Br.b (fun z => ?_) (fun z => ?_)
  rotate_left
  · fail "STEP"
    exact ⟨rfl, fin0 (.inr z)⟩
  clear fin0
  have nc : ¬ (m.s < (h.st.sat m).s ∨ (h.st.sat m).here = false) := by rw [z]; exact fun c => c.elim z1 (by decide)
  have us := fun v' => (Ud.lf (ud_seat f3 (v' := v')) : Ud (_ ++ Y) _ _ _ _)
  have key : ∀ v', (h1.setS i { q with v := v' }).st = (⟨h.st.ps, sput m.n v' h.st.ss⟩ : HP) := fun v' => by
    rw [f6, ← fps]
    rfl
  have keyP : ∀ l1 p' v', ((h1.setP q.v.p l1 p').setS i { q with v := v' }).st = (⟨h.st.ps.set q.v.p p', sput m.n v' h.st.ss⟩ : HP) := fun l1 p' v' => by
    rw [f6, ← fps]
    show HP.mk ((h1.ps.set q.v.p (l1, p')).map (·.2)) _ = _
    rw [List.map_set]
    rfl
  fail "STEP"
  rcases hw with ⟨rfl, n, s, p, k, f, zz, rfl⟩ | ⟨rfl, n, s, p, rfl⟩
  · refine Br.df (by decide) ?_
    rw [hear_at (n := n) (s := s) (p := p) (k := k) (f := f) (z := zz) ip nc]
    have lp := g.sat_p ip
    rw [← f5, ← fps] at lp
    obtain ⟨l1, e1⟩ := HV.st_ps (List.getElem?_eq_getElem lp)
    have er : rest = [nkF k, numL f, zz] := by
      have := eF
      unfold lmF at this
      simpa [LM.n, LM.s, LM.p] using this.symm
    have e4 : ∀ a b c d : List Nat, cutL ((a :: b :: c :: d :: rest).map D.str) (some 4) none = [.str (nkF k), .str (numL f), .str zz] := fun a b c d => by
      rw [er]
      exact cut_hi _ 4
    have f4 : q.n = n := f4
    have mh1 : (h.lh, MO.ins 3 [.lst (h1.ps.map fun q => D.ref q.1), .ref h1.ls]) ∈ hallA h1 ++ Y := by
      rw [← f1]
      exact List.mem_append_left _ mem_hall
    fail "STEP"
    rw [e4, show ((LM.at n s p k f zz).n : Int) = (q.n : Int) by rw [f4]; rfl, ← f1]
    have pg : Pg h1.st.ps[q.v.p] := g.pg _ (by rw [← fps]; exact List.getElem_mem lp)
    refine (htake_w (q := q) (i := i) (lp := l1) (k := k) (f := f) (z := zz) hs f3 e1 pg ok.2.2.2.1 ok.2.2.2.2.1 ⟨by have := ok.2.2.2.2.2.1; omega, ok.2.2.2.2.2.2⟩).mono fun o S7 e => ?_
    obtain ⟨rfl, hs, _⟩ := e
    fail "STEP"
    refine ⟨rfl, _, ?_, ?_, hs⟩
    · rfl
    · rw [keyP]
      unfold HP.take
      have ep : (h.st.ps[(h.st.sat (.at n s p k f zz)).p]?).getD p0 = h1.st.ps[q.v.p] := by
        rw [← f5, ← fps, List.getElem?_eq_getElem lp]
        rfl
      rw [ep, ← f5, f4]
      rfl
  · refine Br.dt rfl ?_
    rw [hear_gone (n := n) (s := s) (p := p) ip nc]
    have us := us { q.v with here := false }
    fail "STEP"
    refine ⟨rfl, h1.setS i { q with v := { q.v with here := false } }, f1, ?_, hs⟩
    rw [key, ← f5]
    rfl
end
end AH
set_option maxRecDepth 100000
set_option maxHeartbeats 4000000
namespace AH
open PySem L2 TL
end AH
set_option maxRecDepth 100000
set_option maxHeartbeats 4000000
namespace AH
open PySem L2 TL
def onePane (p : PV) : Sto := Sto.nil0.new (.ins 0 (paneD p))
theorem onePane_hs (p : PV) : Hs (onePane p) [(Sto.nil0.next, .ins 0 (paneD p))] := Hs.nil.new _
theorem Pg.press {p : PV} {a b : D} {c : Nat} (g : Pg p) (hc : c ∈ an) : Pg (pressV p (.tup [a, b, .str [c]]) c) := by
  obtain ⟨_, _, _, _, _, h⟩ := press_w (a := a) (b := b) (onePane_hs p) .hd g hc
  exact h
theorem tkz_pg {n s : Nat} : ∀ {z : List Nat} {p : PV} {d f : Nat}, Pg p → (∀ c ∈ z, c ∈ an) → Pg (tkz n s p d f z).1
  | [], _, _, _, g, _ => g
  | c :: z, p, d, f, g, h => by
    show Pg (List.foldl (stp n s) (stp n s (p, d, f) c) z).1
    unfold stp
    dsimp only
    split
    · exact tkz_pg (g.press (h c List.mem_cons_self)) fun x hx => h x (List.mem_cons_of_mem _ hx)
    · exact tkz_pg g fun x hx => h x (List.mem_cons_of_mem _ hx)
theorem sput_nd {n : Nat} {v : SV} {ss : List (Nat × SV)} (h : (ss.map (·.1)).Nodup) : ((sput n v ss).map (·.1)).Nodup := by
  rw [sput_keys]
  split
  · exact h
  · rename_i c
    rw [List.nodup_append]
    refine ⟨h, by simp, fun a ha b hb e => ?_⟩
    rw [List.mem_singleton] at hb
    exact c (by rw [← hb, ← e]; exact ha)
theorem HP.ok.sput {h : HP} (g : h.ok) {n : Nat} {v : SV} (hn : n ≤ 3) (hv : v.p < h.ps.length) : HP.ok ⟨h.ps, sput n v h.ss⟩ where
  p1 := g.p1
  pg := g.pg
  nd := sput_nd g.nd
  n3 := fun q hq => (sput_mem hq).elim (fun e => by rw [e]; exact hn) (g.n3 q)
  sp := fun q hq => (sput_mem hq).elim (fun e => by rw [e]; exact hv) (g.sp q)
theorem HP.ok.setP {h : HP} (g : h.ok) {i : Nat} {p : PV} (hp : Pg p) : HP.ok ⟨h.ps.set i p, h.ss⟩ where
  p1 := by rw [List.length_set]; exact g.p1
  pg := fun q hq => (List.mem_or_eq_of_mem_set hq).elim (g.pg q) fun e => by rw [e]; exact hp
  nd := g.nd
  n3 := g.n3
  sp := fun q hq => by rw [List.length_set]; exact g.sp q hq
theorem HP.ok.hear {h : HP} (g : h.ok) {m : LM} (ok : LMok m) (hn : m.n ≤ 3) : (h.hear m).ok := by
  by_cases ip : h.ps.length ≤ m.p
  · rw [hear_far ip]
    exact g
  have sp := g.sat_p ip
  by_cases c : m.s < (h.sat m).s ∨ (h.sat m).here = false
  · rw [hear_over ip c]
    exact g.sput hn sp
  cases m with
  | gone n s p =>
    rw [hear_gone (n := n) (s := s) (p := p) ip c]
    exact g.sput hn sp
  | «at» n s p k f z =>
    rw [hear_at (n := n) (s := s) (p := p) (k := k) (f := f) (z := z) ip c]
    unfold HP.take
    have pg : Pg ((h.ps[(h.sat (.at n s p k f z)).p]?).getD p0) := by
      rw [List.getElem?_eq_getElem sp]
      exact g.pg _ (List.getElem_mem sp)
    have g1 := g.setP (i := (h.sat (.at n s p k f z)).p) (tkz_pg (n := n) (s := (h.sat (.at n s p k f z)).s) (d := (h.sat (.at n s p k f z)).d) (f := f) (z := z) pg ok.2.2.2.2.2.2)
    exact g1.sput hn (by show _ < (List.set _ _ _).length; rw [List.length_set]; exact sp)
theorem HP.ok.new {n : Nat} (h : 1 ≤ n ∧ n ≤ 3) : HP.ok ⟨List.replicate n p0, []⟩ where
  p1 := by show 1 ≤ (List.replicate n p0).length ∧ _; rw [List.length_replicate]; exact h
  pg := fun q hq => by rw [List.eq_of_mem_replicate hq]; exact Pg.zero
  nd := List.nodup_nil
  n3 := nofun
  sp := nofun
def Sd (d : D) : Prop := ∃ p, toPy d = some p ∧ p.canLay0 = true ∧ p.depth ≤ 8
theorem Sd.int {n : Int} : Sd (.int n) := ⟨.int n, rfl, rfl, Nat.zero_le _⟩
theorem Sd.str {z : List Nat} (h : okS z) : Sd (.str z) := ⟨_, rfl, okS_lay h, Nat.zero_le _⟩
theorem sd_all : ∀ {ds : List D} {k : Nat}, (∀ d ∈ ds, ∃ p, toPy d = some p ∧ p.canLay0 = true ∧ p.depth ≤ k) → ∃ ps, toPys ds = some ps ∧ PyData.canLayAll0 ps = true ∧ PyData.depthAll ps ≤ k
  | [], _, _ => ⟨[], rfl, rfl, Nat.zero_le _⟩
  | d :: ds, k, h => by
    obtain ⟨ps, h1, h2, h3⟩ := sd_all (ds := ds) fun x hx => h x (List.mem_cons_of_mem _ hx)
    obtain ⟨p, g1, g2, g3⟩ := h d List.mem_cons_self
    refine ⟨p :: ps, ?_, ?_, ?_⟩
    · rw [toPys, g1, h1]
    · show (p.canLay0 && PyData.canLayAll0 ps) = true
      rw [g2, h2]
      rfl
    · show max p.depth (PyData.depthAll ps) ≤ k
      omega
theorem wo_eqE' {S : Sto} {x : D} {xs : List D} (hx : lstOf S x = some xs) (h : ∀ d ∈ xs, Sd d) : eqD S x (.lst []) = some xs.isEmpty := by
  obtain ⟨ps, h1, h2, h3⟩ := sd_all h
  have e1 : toPyS S x = some (.list ps) := by
    unfold lstOf at hx
    split at hx
    · cases hx
      show (toPys xs).map PyData.list = _
      rw [h1]
      rfl
    · rename_i l
      split at hx
      · rename_i es g
        cases hx
        unfold toPyS
        dsimp only
        rw [g]
        dsimp only
        rw [h1]
        rfl
      · cases hx
    · cases hx
  have e2 : toPyS S (.lst []) = some (.list []) := rfl
  have sh : SeqAt.shaped (.list ps) = true := by
    show (PyData.canLayAll0 ps && decide (PyData.depthAll ps + 1 ≤ 64)) = true
    rw [h2, decide_eq_true (by omega)]
    rfl
  have sh2 : SeqAt.shaped (.list []) = true := rfl
  have ee : PyData.eqv (.list ps) (.list []) = xs.isEmpty := by
    cases xs with
    | nil => cases h1; rfl
    | cons d ds =>
      cases ps with
      | nil =>
        unfold toPys at h1
        split at h1 <;> cases h1
      | cons p ps => rfl
  have fin : ∀ q : Option PyData, toPyS S x = q → (match toPyS S x, toPyS S (.lst []) with
    | some p, some q => eqPy p q
    | _, _ => none) = some xs.isEmpty := fun _ _ => by
    rw [e1, e2]
    show eqPy _ _ = _
    unfold eqPy
    rw [if_pos ⟨sh, sh2⟩, ee]
  unfold lstOf at hx
  split at hx
  · exact fin _ rfl
  · exact fin _ rfl
  · cases hx
theorem wo_neE {S : Sto} {x : D} {xs : List D} {P : D → Sto → Prop} (hx : lstOf S x = some xs) (h : ∀ d ∈ xs, Sd d) (k : P (.bl (!xs.isEmpty)) S) : W (fNe x (.lst []) S) P := by
  refine ⟨_, _, ?_, k⟩
  unfold fNe
  rw [wo_eqE' hx h]
  rfl
end AH
set_option maxRecDepth 100000
set_option maxHeartbeats 2000000
namespace AH
open PySem PySem.Spec PyProof.Rows L2 TL Classical
noncomputable def rmC (P : Addr → Prop) (H : Hp) : Hp := fun b => if P b then none else H b
noncomputable def adC (P : Addr → Prop) (oc : Addr → Obj) (H : Hp) : Hp := fun b => if P b then some (CelO (oc b) b) else H b
section
variable {P : Addr → Prop} {oc : Addr → Obj} {H H' : Hp} {h h' B : Heap} {b : Addr} {p : Program} {w : World} {fs ex : List Addr}
theorem rm_in (q : P b) : rmC P H b = none := if_pos q
theorem rm_out (q : ¬ P b) : rmC P H b = H b := if_neg q
theorem ad_in (q : P b) : adC P oc H b = some (CelO (oc b) b) := if_pos q
theorem ad_out (q : ¬ P b) : adC P oc H b = H b := if_neg q
theorem rm_some {o : HO} (e : rmC P H b = some o) : ¬ P b ∧ H b = some o := by
  by_cases q : P b
  · rw [rm_in q] at e
    cases e
  · rw [rm_out q] at e
    exact ⟨q, e⟩
/-- what is told where nothing is -/
def Fre (P : Addr → Prop) (H : Hp) : Prop := ∀ b, P b → H b = none
def Tol (P : Addr → Prop) (oc : Addr → Obj) (H : Hp) : Prop := ∀ b, P b → H b = some (CelO (oc b) b)
def Is (P : Addr → Prop) (oc : Addr → Obj) (h : Heap) : Prop := ∀ b, P b → h.get? b = some (oc b)
theorem fre_rm : Fre P (rmC P H) := fun _ q => rm_in q
theorem Tol.is (f : Tol P oc H) (k : HOk p w H h) : Is P oc h := fun b q => (k b _ (f b q)).1
theorem Fre.not {o : HO} (f : Fre P H) (e : H b = some o) : ¬ P b := fun q => by
  rw [f b q] at e
  cases e
theorem Tol.not {o : HO} (f : Tol P oc H) (e : H b = some o) (n : NoCel o) : ¬ P b := fun q => by
  rw [f b q] at e
  exact n _ _ (Option.some.inj e).symm
theorem hok_ad (f : Fre P H) (i : Is P oc h) (k : HOk p w H h) : HOk p w (adC P oc H) h := fun a o e => by
  by_cases q : P a
  · rw [ad_in q] at e
    cases e
    exact ⟨i a q, i a q, ⟨_, i a q⟩, fun _ _ z st => st _ z⟩
  · rw [ad_out q] at e
    exact (k a o e).stay (fun _ _ _ z => z) (fun c z => by rw [ad_out (f.not z)]; exact z) fun c xs z => by rw [ad_out (f.not z)]; exact z
theorem hok_rm (f : Tol P oc H) (k : HOk p w H h) : HOk p w (rmC P H) h := fun a o e => by
  obtain ⟨q, e⟩ := rm_some e
  exact (k a o e).stay (fun _ _ _ z => z) (fun c z => by rw [rm_out (f.not z fun _ _ => nofun)]; exact z) fun c xs z => by rw [rm_out (f.not z fun _ _ => nofun)]; exact z
/-- behind a call that was told of the cells -/
theorem un_rm (u : Un fs ex (adC P oc H) H' h h') (f : Fre P H) (i : Is P oc h) (f' : Tol P oc H') (k : HOk p w H' h') : Un fs ex H (rmC P H') h h' := by
  have i' := f'.is k
  have at_ : ∀ c o, P c → h.get? c = some o → h'.get? c = some o := fun c o q e => by
    rw [i c q] at e
    cases e
    exact i' c q
  refine ⟨fun c o e n hf hx => ?_, fun c o e n hf hx => ?_, fun c o e n hx => ?_, u.there, fun c xs e => ?_, fun c o xs e => ?_, fun c ps e => ?_⟩
  · by_cases q : P c
    · exact at_ c o q e
    · exact u.keep c o e (by rw [ad_out q]; exact n) hf hx
  · by_cases q : P c
    · exact ⟨o.slots, at_ c o q e⟩
    · exact u.slot c o e (by rw [ad_out q]; exact n) hf hx
  · by_cases q : P c
    · exact rm_in q
    · rw [rm_out q]
      exact u.free c o e (by rw [ad_out q]; exact n) hx
  · have q := f.not e
    have e := u.tups c xs (by rw [ad_out q]; exact e)
    rw [rm_out q]
    exact e
  · have q := f.not e
    have e := u.frzs c o xs (by rw [ad_out q]; exact e)
    rw [rm_out q]
    exact e
  · have q := f.not e
    obtain ⟨m, e⟩ := u.tbls c ps (by rw [ad_out q]; exact e)
    rw [rm_out q]
    exact ⟨m, e⟩
/-- behind a lambda that was not told of them -/
theorem un_ad (u : Un fs ex (rmC P H) H' h h') (f : Tol P oc H) : Un fs ex H (adC P oc H') h h' := by
  refine ⟨fun c o e n hf hx => ?_, fun c o e n hf hx => ?_, fun c o e n hx => ?_, u.there, fun c xs e => ?_, fun c o xs e => ?_, fun c ps e => ?_⟩
  · exact u.keep c o e (by rw [rm_out (fun q => by rw [f c q] at n; cases n)]; exact n) hf hx
  · exact u.slot c o e (by rw [rm_out (fun q => by rw [f c q] at n; cases n)]; exact n) hf hx
  · have q : ¬ P c := fun q => by rw [f c q] at n; cases n
    rw [ad_out q]
    exact u.free c o e (by rw [rm_out q]; exact n) hx
  · have q := f.not e fun _ _ => nofun
    rw [ad_out q]
    exact u.tups c xs (by rw [rm_out q]; exact e)
  · by_cases q : P c
    · rw [f c q] at e
      rw [ad_in q]
      exact e
    · rw [ad_out q]
      exact u.frzs c o xs (by rw [rm_out q]; exact e)
  · have q := f.not e fun _ _ => nofun
    obtain ⟨m, e⟩ := u.tbls c ps (by rw [rm_out q]; exact e)
    rw [ad_out q]
    exact ⟨m, e⟩
theorem ub_ad (u : UB fs (rmC P H) H' h B h') (f : Tol P oc H) : UB fs H (adC P oc H') h B h' := by
  refine ⟨fun c o e n hf => ?_, u.slot, fun c o e n => ?_, u.there, fun c xs e => ?_, fun c o xs e => ?_, fun c ps e => ?_⟩
  · exact u.keep c o e (by rw [rm_out (fun q => by rw [f c q] at n; cases n)]; exact n) hf
  · have q : ¬ P c := fun q => by rw [f c q] at n; cases n
    rw [ad_out q]
    exact u.free c o e (by rw [rm_out q]; exact n)
  · have q := f.not e fun _ _ => nofun
    rw [ad_out q]
    exact u.tups c xs (by rw [rm_out q]; exact e)
  · by_cases q : P c
    · rw [f c q] at e
      rw [ad_in q]
      exact e
    · rw [ad_out q]
      exact u.frzs c o xs (by rw [rm_out q]; exact e)
  · have q := f.not e fun _ _ => nofun
    obtain ⟨m, e⟩ := u.tbls c ps (by rw [rm_out q]; exact e)
    rw [ad_out q]
    exact ⟨m, e⟩
/-- the cells stay where they are free -/
theorem is_un (u : Un fs [] (rmC P H) H' h h') (i : Is P oc h) (nf : ∀ b, P b → b ∉ fs) : Is P oc h' := fun b q => u.keep b _ (i b q) (rm_in q) (nf b q) (by simp)
theorem is_ub (u : UB fs (rmC P H) H' h B h') (i : Is P oc h) (nf : ∀ b, P b → b ∉ fs) : Is P oc B := fun b q => u.keep b _ (i b q) (rm_in q) (nf b q)
theorem fre_un (u : Un fs [] (rmC P H) H' h h') (i : Is P oc h) : Fre P H' := fun b q => u.free b _ (i b q) (rm_in q) (by simp)
theorem fre_ub (u : UB fs (rmC P H) H' h B h') (i : Is P oc h) : Fre P H' := fun b q => u.free b _ (i b q) (rm_in q)
end
def CelsOf (X : Cx) (b : Addr) : Prop := ∃ y, X.env.cells.lookup y = some b
/-- the cells' objects hold what the slots hold -/
structure Celly (X : Cx) (σ : L2.St) (oc : Addr → Obj) : Prop where
  cell : ∀ y c, X.env.cells.lookup y = some c → ∃ v, (oc c).data = .cell v
  loc : ∀ (i : Nat) (y : Str) (v : V) (c : Addr), X.N[i]? = some y → σ[i]? = some (some v) → X.env.kindOf y = some .cell ∨ X.env.kindOf y = some .free → X.env.cells.lookup y = some c → ∃ u, RelV v u ∧ (oc c).data = .cell (some u)
section
variable {X : Cx} {pins : List (Addr × Obj)} {σ : L2.St} {H : Hp} {s : Shared}
theorem Inv.ocs (J : Inv X pins σ H s) : ∃ oc : Addr → Obj, Celly X σ oc ∧ Is (CelsOf X) oc s.heap := by
  have key : ∀ b, CelsOf X b → ∃ o, s.heap.get? b = some o ∧ ∃ v, o.data = .cell v := fun b ⟨y, e⟩ => by
    obtain ⟨v, o, ho, hd⟩ := J.cell y b e
    exact ⟨o, ho, v, hd⟩
  let oc : Addr → Obj := fun b => (s.heap.get? b).getD { cls := .none, data := .fields #[] }
  have at_ : ∀ b o, s.heap.get? b = some o → oc b = o := fun b o e => by
    show (s.heap.get? b).getD _ = o
    rw [e]
    rfl
  refine ⟨oc, ⟨fun y c e => ?_, fun i y v c e1 e2 hk hc => ?_⟩, fun b q => ?_⟩
  · obtain ⟨o, ho, v, hd⟩ := key c ⟨y, e⟩
    rw [at_ c o ho]
    exact ⟨v, hd⟩
  · obtain ⟨m, _, hl⟩ := J.loc
    have vis : Vis X.env.scope y := by
      rcases hk with k | k
      · exact .inr (.inl k)
      · exact .inr (.inr k)
    obtain ⟨u, r, q⟩ := hl i y v e1 e2 vis
    rcases q with ⟨k, _⟩ | ⟨_, c', e', o, ho, hd⟩
    · rcases hk with z | z <;> rw [k] at z <;> cases z
    · rw [hc] at e'
      cases e'
      rw [at_ c o ho]
      exact ⟨u, r, hd⟩
  · obtain ⟨o, ho, _⟩ := key b q
    rw [at_ b o ho]
    exact ho
theorem Inv.fre (J : Inv X pins σ H s) : Fre (CelsOf X) H := fun b ⟨y, e⟩ => J.freeC y b e
theorem Inv.nof (J : Inv X pins σ H s) (hfn : ∀ y, X.fn y = true) : ∀ b, CelsOf X b → b ∉ frs X.stack ∧ X.base.get? b = none := fun b ⟨y, e⟩ => by
  have ge := J.ok.cab y b (hfn y) e
  refine ⟨fun z => ?_, ?_⟩
  · rcases List.mem_cons.mp (J.stkSub _ z) with q | q
    · exact J.cne y b e q
    · obtain ⟨_, o, ho, _⟩ := J.ok.funs.mem q
      exact absurd (Nat.lt_of_lt_of_le (Heap.lt_size ho) ge) (Nat.lt_irrefl _)
  · cases q : X.base.get? b with
    | none => rfl
    | some o => exact absurd (Nat.lt_of_lt_of_le (Heap.lt_size q) (Nat.le_trans J.ok.bsz ge)) (Nat.lt_irrefl _)
theorem Inv.env0A (J : Inv X pins σ H s) (hfn : ∀ y, X.fn y = true) {oc : Addr → Obj} (i : Is (CelsOf X) oc s.heap) : Env0 X.prog X.w X.K X.mg X.base X.A X.stack s (adC (CelsOf X) oc H) := by
  have e0 := J.env0
  have nf := Inv.nof J hfn
  refine ⟨e0.frames, e0.mod, fun b o e => ?_, e0.bsz, e0.funs, fun b hb => ?_, hok_ad (Inv.fre J) i e0.hok, e0.bare⟩
  · obtain ⟨h1, h2⟩ := e0.bs b o e
    exact ⟨h1, by rw [ad_out (fun q => by rw [(nf b q).2] at e; cases e)]; exact h2⟩
  · rw [ad_out (fun q => (nf b q).1 hb)]
    exact e0.frf b hb
end
end AH
set_option maxRecDepth 100000
set_option maxHeartbeats 2000000
namespace AH
open PySem PySem.Spec PyProof.Rows L2 TL Classical
def lamObj (q : Str) (ar : Arguments) (bd : Expr) (sc : Scope) (cl : List (Str × Addr)) (pm : Value) (c' : Addr) (ctv dv : Value) : Obj := { cls := .type "function", data := .func { PySem.W.kla_fn "<lambda>" q ar bd sc cl pm (.ref c') ctv with defaults := dv } }
abbrev qLam (X : Cx) : Str := X.env.qual ++ "<lambda>"
abbrev clLam (X : Cx) (sc : Scope) : List (Str × Addr) := cloFrom X.env.cells sc.names []
def LamO (X : Cx) (ar : Arguments) (bd : Expr) (sc : Scope) (dv : Value) (c' f : Addr) : HO := .ext fun h => ∃ pm ctv : Value, h.get? f = some (lamObj (qLam X) ar bd sc (clLam X sc) pm c' ctv dv)
/-- its names: captured ones, globals, and some of its own that the maker does not have -/
structure LamS2 (X : Cx) (sc : Scope) : Prop where
  kind : sc.kind = .function
  co : sc.isCoroutine = false
  gen : sc.isGenerator = false
  noc : ∀ y ∈ sc.names, y.2 ≠ .cell
  own : ∀ y ∈ sc.names, y.2 = .local → y.1 ∉ X.N
  free : ∀ y ∈ sc.names, y.2 = .free → X.env.kindOf y.1 = some .cell ∨ X.env.kindOf y.1 = some .free
section
variable {X : Cx} {σ : L2.St} {HZ : Hp} {s1 : Shared} {A : Around} {outer : List Env} {sc : Scope} {oc : Addr → Obj}
theorem lam_inv (okX : X.Ok) (L : LamS2 X sc) {E : XK} {f c' : Addr} {h1 : Heap} {tk : Nat} {m : Str → Option Value} (e0 : Env0 X.prog X.w X.K X.mg X.base A outer s1 HZ) (hd : A.handled = none) (hF : Fre (CelsOf X) HZ) (is : Is (CelsOf X) oc s1.heap)
    (cy : Celly X σ oc) (hl : σ.length = X.N.length) (hns : h1.Ns s1.heap.objs.size m) (kp : ∀ b o, s1.heap.get? b = some o → h1.get? b = some o) : Inv (LamX.lamCx X A outer s1 HZ E sc f c') [] σ HZ { s1 with heap := h1, toks := tk } := by
  have lk : ∀ {y c}, (clLam X sc).lookup y = some c → X.env.cells.lookup y = some c := by
    intro y c e
    rcases cloFrom_mem (PySem.mem_of_lookup e) with z | ⟨z1, z2⟩
    · cases z
    · obtain ⟨c1, h⟩ := okX.has _ (L.free _ z1 rfl)
      have h : X.env.cells.lookup y = some c1 := h
      rw [h] at z2
      rw [h]
      exact congrArg some z2.symm
  have fr : ∀ {y}, sc.names.lookup y = some .free → ∃ c, (clLam X sc).lookup y = some c := by
    intro y e
    exact mem_lookup (cloFrom_has (cells := X.env.cells) (acc := []) (PySem.mem_of_lookup e))
  have ne : ∀ b : Addr, b ∉ (LamX.lamCx X A outer s1 HZ E sc f c').ex := fun b z => absurd (show b ∈ ([] : List Addr) from z) List.not_mem_nil
  have ce : ∀ {b}, CelsOf X b → ∃ o, h1.get? b = some o ∧ o = oc b := fun {b} q => ⟨_, kp _ _ (is b q), rfl⟩
  constructor
  case ok =>
    constructor
    case mod => exact e0.mod
    case kind => exact L.kind
    case glob => rfl
    case blt => rfl
    case above => exact Nat.le_refl _
    case inj => exact fun x y c e1 e2 => okX.inj x y c (lk e1) (lk e2)
    case has =>
      intro y hy
      have hy : sc.names.lookup y = some .cell ∨ sc.names.lookup y = some .free := hy
      rcases hy with hy | hy
      · exact absurd rfl (L.noc _ (PySem.mem_of_lookup hy))
      · exact fr hy
    case cab => exact fun y c z _ => absurd (show false = true from z) (by decide)
    case hd => exact fun _ => hd
    case frames => exact Around.frames_deeper e0.frames
    case stk => exact .inr ⟨rfl, rfl⟩
    case exf => exact fun b z => absurd z (ne b)
    case bs => exact e0.bs
    case bsz => exact e0.bsz
    case noex => exact fun b _ _ => ne b
    case exfs => exact fun b z => absurd z (ne b)
    case funs => exact e0.funs
    case frf => exact e0.frf
  case os => rfl
  case bare => exact e0.bare
  case base => exact Un.kept kp
  case loc =>
    refine ⟨_, hns, fun i y v e1 e2 e3 => ?_⟩
    have e1 : X.N[i]? = some y := e1
    rcases (show Vis sc y from e3) with k | k | k
    · exact absurd (List.mem_of_getElem? e1) (L.own _ (PySem.mem_of_lookup k) rfl)
    · exact absurd rfl (L.noc _ (PySem.mem_of_lookup k))
    · obtain ⟨c, hc⟩ := fr k
      have q := L.free _ (PySem.mem_of_lookup k) rfl
      obtain ⟨u, r, hu⟩ := cy.loc i y v c e1 e2 q (lk hc)
      obtain ⟨o, ho, rfl⟩ := ce ⟨y, lk hc⟩
      exact ⟨u, r, .inr ⟨.inr k, c, hc, _, ho, hu⟩⟩
  case cell =>
    intro y c e
    obtain ⟨v, hv⟩ := cy.cell y c (lk e)
    obtain ⟨o, ho, rfl⟩ := ce ⟨y, lk e⟩
    exact ⟨v, _, ho, hv⟩
  case free => exact e0.hok.fresh (Nat.le_refl _)
  case freeC => exact fun y c e => hF c ⟨y, lk e⟩
  case pin => exact fun q hq => absurd (show q ∈ ([] : List (Addr × Obj)) ++ [] from hq) List.not_mem_nil
  case hok => exact e0.hok.kept kp
  case len => exact hl
/-- what the heap tells of a closure -/
structure LamF (X : Cx) (ar : Arguments) (bd : Expr) (sc : Scope) (dv : Value) (c' f : Addr) (oc : Addr → Obj) (H : Hp) : Prop where
  f : H f = some (LamO X ar bd sc dv c' f)
  c : H c' = some (LamX.CodeO c' (qLam X))
  t : Tol (CelsOf X) oc H
/-- x(), in a def that got the closure -/
theorem pe_work {CXg : CXT} {Eg : XK} {Ng : List Str} {qg : Str} {sg : Scope} {g f c' : Addr} {cdg dv : Value} {ar : Arguments} {bd : Expr} {k i : Nat} {a : Str} {pn : List (Addr × Obj)} {xe : Value → Shared → Prop} {W : WX} {E : XK} {te : XK → TE} {p1 p2 : Pos} {A0 : Around} {st0 : List Env} {s0 : Shared} {H0 : Hp} {D : Hp → Prop} {binds : List (Str × Value)}
    (okX : X.Ok) (L : LamS2 X sc) (cy : Celly X σ oc) (hl : σ.length = X.N.length)
    (hbind : ∀ (pm ctv : Value) (M : Model) (A : Around) (s : Shared) (H : Hp) (Q : List (Str × Value) → Shared → Prop) (Ex : Value → Shared → Prop), HOk X.prog X.w H s.heap → D H → Q binds s → wpAny M A (bindArgs { PySem.W.kla_fn "<lambda>" (qLam X) ar bd sc (clLam X sc) pm (.ref c') ctv with defaults := dv } ⟨[], []⟩) Q Ex s)
    (hbl : ∀ y ∈ binds, sc.names.lookup y.1 = some .local)
    (tk : Takes ((cxOf CXg X.prog X.w X.K X.mg X.base Ng qg sg g cdg A0 st0 s0 H0 Eg).tr pn xe) W) (hW : ∀ cls d σ' H', E cls d H' → W cls d σ' H') (hr : Room (k + 1) (A0.deeper (envOfC qg sg s0.heap.objs.size g cdg)))
    (body : ∀ (A : Around) (outer : List Env) (s : Shared) (H : Hp) (E : XK), Room k (A.deeper (LamX.lamEnv X sc s.heap.objs.size f c')) → PE (LamX.lamCx X A outer s H E sc f c') bd (te E))
    (hN : Ng[i]? = some a) (hv : Vis sg a) (hd : (a == ("__debug__" : Str)) = false := by decide) (hcd : (a == ("__classdict__" : Str)) = false := by decide) :
    PE ((cxOf CXg X.prog X.w X.K X.mg X.base Ng qg sg g cdg A0 st0 s0 H0 Eg).tr pn xe) (.Call (.Name a p1) [] [] p2)
      (fun σZ HZ Q => σZ[i]? = some (some (.ref f)) ∧ LamF X ar bd sc dv c' f oc HZ ∧ D HZ ∧ te (fun cls d H' => Fre (CelsOf X) H' → E cls d (adC (CelsOf X) oc H')) σ (rmC (CelsOf X) HZ) (fun v H' => Fre (CelsOf X) H' → Q v (adC (CelsOf X) oc H'))) := by
  constructor
  intro pinsZ sZ σZ HZ Q IZ h
  obtain ⟨hs, F, hD, ht⟩ := h
  apply wpAny_Call_Name_kw
  refine thn ((pe_var (pos := p1) (i := i) hN hv hd hcd).run pinsZ sZ σZ HZ (fun v H1 => v = .ref f ∧ H1 = HZ) IZ ⟨.ref f, hs, rfl, rfl⟩) fun u s1 hu => ?_
  obtain ⟨v, H1, J, ru, ev, eH⟩ := hu
  subst ev eH
  obtain rfl : u = Value.ref f := ru
  obtain ⟨⟨pm, ctv, of⟩, _, _⟩ := J.hok f _ F.f
  obtain ⟨⟨od, vs, t, hod, hdd, hvd⟩, _, _⟩ := J.hok c' _ F.c
  have is : Is (CelsOf X) oc s1.heap := F.t.is J.hok
  have eZ := J.env0
  have nf : ∀ b, CelsOf X b → b ∉ frs (envOfC qg sg s0.heap.objs.size g cdg :: st0) := fun b q z => by
    have n := eZ.frf b z
    rw [F.t b q] at n
    cases n
  have eR : Env0 X.prog X.w X.K X.mg X.base (A0.deeper (envOfC qg sg s0.heap.objs.size g cdg)) (envOfC qg sg s0.heap.objs.size g cdg :: st0) s1 (rmC (CelsOf X) H1) := by
    refine ⟨eZ.frames, eZ.mod, fun b o e => ?_, eZ.bsz, eZ.funs, fun b hb => ?_, hok_rm F.t eZ.hok, eZ.bare⟩
    · obtain ⟨z1, z2⟩ := eZ.bs b o e
      refine ⟨z1, ?_⟩
      by_cases q : CelsOf X b
      · exact rm_in q
      · rw [rm_out q]
        exact z2
    · rw [rm_out (fun q => nf b q hb)]
      exact eZ.frf b hb
  refine PySem.W.callWith_F0 ⟨_, _, _, _, of⟩ ?_
  have called : codeAny (model X.prog X.w) (A0.deeper (envOfC qg sg s0.heap.objs.size g cdg)) (.call (.ref f) ⟨[], []⟩) (CR (L2.CX X.prog X.w) (envOfC qg sg s0.heap.objs.size g cdg :: st0) X.prog X.w H1 s1 Q E) s1 := by
    apply PySem.W.kla_callFunE hr.depth of rfl L.co L.gen rfl ⟨c', od, vs, t, rfl, hod, hdd, hvd⟩
    apply hbind pm ctv _ _ _ H1 _ _ J.hok hD
    refine wpAny_newFunctionEnv L.noc hbl (fun h1 hns sb => ⟨J.nolimit.fresh _ sb, ?_⟩) L.kind
    show codeAny _ _ (.expr bd (LamX.lamEnv X sc s1.heap.objs.size f c')) _ _
    have kp : ∀ b o, s1.heap.get? b = some o → h1.get? b = some o := fun b o e => sb.extBut b o (Nat.ne_of_lt (Heap.lt_size e)) (Heap.get?_push_of_some _ e)
    have JL : Inv (LamX.lamCx X (A0.deeper (envOfC qg sg s0.heap.objs.size g cdg)) (envOfC qg sg s0.heap.objs.size g cdg :: st0) s1 (rmC (CelsOf X) H1) (fun cls d H' => Fre (CelsOf X) H' → E cls d (adC (CelsOf X) oc H')) sc f c') [] σ (rmC (CelsOf X) H1) { s1 with heap := h1, toks := s1.toks + binds.length } :=
      lam_inv okX L eR hr.hd fre_rm is cy hl hns kp
    have conv : ∀ e s2, L2.CX X.prog X.w (envOfC qg sg s0.heap.objs.size g cdg :: st0) (rmC (CelsOf X) H1) s1 (fun cls d H' => Fre (CelsOf X) H' → E cls d (adC (CelsOf X) oc H')) e s2 → L2.CX X.prog X.w (envOfC qg sg s0.heap.objs.size g cdg :: st0) H1 s1 E e s2 := by
      rintro e s2 ⟨ax, B, H', cls, d, rfl, fl, hok, ub, na, os, ag, hE⟩
      have iB := is_ub ub is nf
      refine ⟨ax, B, _, cls, d, rfl, fl, hok_ad (fre_ub ub is) iB hok, ub_ad ub F.t, ?_, os, ag, hE (fre_ub ub is)⟩
      rw [ad_out (fun q => by have n := fl.2.1; rw [iB ax q] at n; cases n)]
      exact na
    refine PySem.W.kla_codeExpr (wpAny_mono ((body _ _ s1 _ _ (hr.deeper _)).run [] _ σ _ _ JL ht) (fun v s2 hq => ?_) fun e s2 hq => ?_)
    · obtain ⟨w', H', J2, rv, q⟩ := hq
      have un : Un (frs (envOfC qg sg s0.heap.objs.size g cdg :: st0)) [] (rmC (CelsOf X) H1) H' s1.heap s2.heap := J2.base
      have i2 := is_un un is nf
      exact ⟨w', _, J2.os, J2.bare, un_ad un F.t, hok_ad (fre_un un is) i2 J2.hok, rv, q (fre_un un is)⟩
    · exact wpAny_mono hq (fun _ s3 z => conv _ _ z) fun _ s3 z => conv _ _ z
  have pass : Passes (L2.CX X.prog X.w) ((cxOf CXg X.prog X.w X.K X.mg X.base Ng qg sg g cdg A0 st0 s0 H0 Eg).tr pn xe) E := passes_call tk hW
  apply wpAny_call
  apply codeAny_mono called
  intro r s2 hq
  match r, hq with
  | .error e, hq => exact pass pinsZ σZ H1 s1 e s2 J hq
  | .ok (.ret u), hq => exact J.after hq
end
end AH
set_option maxRecDepth 100000
set_option maxHeartbeats 2000000
namespace AH
open PySem PySem.Spec PyProof.Rows L2 TL Classical
section
variable {X : Cx} {pins : List (Addr × Obj)} {σ : L2.St} {H : Hp} {s : Shared}
theorem lam_young (J : Inv X pins σ H s) {f : Addr} (hf : s.heap.objs.size ≤ f) : X.s_0.heap.objs.size ≤ f ∧ f ≠ X.env.locals ∧ (∀ y c, X.env.cells.lookup y = some c → c ≠ f) ∧ (∀ p ∈ X.pn ++ pins, p.1 ≠ f) ∧ f ∉ frs X.stack := by
  have lt : ∀ {b o}, s.heap.get? b = some o → b ≠ f := by
    intro b o e z
    rw [z] at e
    exact absurd (Nat.lt_of_lt_of_le (Heap.lt_size e) hf) (Nat.lt_irrefl _)
  have nl : f ≠ X.env.locals := fun z => absurd (Nat.lt_of_lt_of_le J.lt (by rw [← z]; exact hf)) (Nat.lt_irrefl _)
  refine ⟨Nat.le_trans J.sz hf, nl, fun y c e => ?_, fun p hp => lt (J.pin p hp).1, fun z => ?_⟩
  · obtain ⟨v, o, ho, _⟩ := J.cell y c e
    exact lt ho
  · rcases List.mem_cons.mp (J.stkSub _ z) with q | q
    · exact nl q
    · exact J.nofs hf q
/-- the heap tells of one thing more -/
theorem inv_tell {f : Addr} {φ : Heap → Prop} (J : Inv X pins σ H s) (nH : H f = none) (h1 : X.s_0.heap.objs.size ≤ f) (h2 : f ≠ X.env.locals) (h3 : ∀ y c, X.env.cells.lookup y = some c → c ≠ f) (h4 : ∀ p ∈ X.pn ++ pins, p.1 ≠ f)
    (ok : φ s.heap ∧ (∃ o, s.heap.get? f = some o) ∧ ∀ a b : Heap, φ a → (∀ o, a.get? f = some o → b.get? f = some o) → φ b) : Inv X pins σ (upd H f (.ext φ)) s := by
  have nf : ∀ {b o}, H b = some o → b ≠ f := fun {b o} e z => by
    rw [z, nH] at e
    cases e
  refine J.step (h' := s.heap) (g' := s.gens) (t' := s.toks) (d' := s.drawn) (ch := [f]) (fun b hb => ?_) (fun b o _ _ _ e _ => e) (fun b o _ _ _ e _ => ⟨o.slots, e⟩) (fun b o nb _ e => ?_) (fun b o _ e => ⟨o, e⟩) (fun b xs e => ?_) (fun b o u e => ?_) (fun b ps e => ?_) (fun m z => z) (fun a o e => ?_) J.bare
  · rw [List.mem_singleton] at hb
    subst hb
    exact ⟨.inr h1, h2, fun y c e => h3 y c e, h4⟩
  · rw [upd_ne (fun z => nb (by rw [z]; exact List.mem_singleton.mpr rfl))]
    exact e
  · rw [upd_ne (nf e)]
    exact e
  · rw [upd_ne (nf e)]
    exact e
  · refine ⟨#[], ?_⟩
    rw [upd_ne (nf e), e]
    simp
  · by_cases z : a = f
    · subst z
      rw [upd_same] at e
      cases e
      exact ok
    · rw [upd_ne z] at e
      exact (J.hok a o e).stay (fun _ _ _ q => q) (fun b q => by rw [upd_ne (nf q)]; exact q) fun b xs q => by rw [upd_ne (nf q)]; exact q
theorem lam_new2 {k P : Addr} {ar : Arguments} {bd : Expr} {sc : Scope} {at_ : Pos} {W : Value → Shared → Prop} {Z : Value → Shared → Prop} {ps : Array Value}
    (J : Inv X pins σ H s) (B : LamX.TabB X.base X.mg k P) (hk : X.env.code = .ref k) (eP : H P = some (.tbl ps)) (tr : TriplesOk ps.toList)
    (cs : ∀ (p : Pos) (v : Value), codeAmong p ps.toList = some v → ∃ b, v = .ref b ∧ H b = some (LamX.CodeO b (qLam X)))
    (nd : defaultsOf ar X.env = ([], [])) (fv : ∀ y ∈ sc.names, y.2 = .free → ∃ b, X.env.cells.lookup y.1 = some b)
    (go : ∀ (f b : Addr) (pm ct : Value) (H1 : Hp) (s1 : Shared), s.heap.objs.size ≤ f → Inv X pins σ H1 s1 → LamH (qLam X) P ps H H1 →
      s1.heap.get? f = some (PySem.W.kla_obj "<lambda>" (qLam X) ar bd sc (clLam X sc) pm b ct) → H1 f = none → H1 b = some (LamX.CodeO b (qLam X)) → Z (.ref f) s1) :
    wpAny (model X.prog X.w) X.A (eval (.Lambda ar bd sc at_) X.env) Z W s := by
  have hP : s.heap.get? P = some { cls := .none, data := .fields ps } := J.hok P _ eP
  apply PySem.W.kla_eval nd
  cases hc : codeAmong at_ ps.toList with
  | some v =>
    obtain ⟨b, rfl, hb⟩ := cs at_ v hc
    apply PySem.W.kla_makeFunctionHit (mg := X.mg) (c := k) (P := P) (ps := ps) (closure_ok fv) J.ok.glob (J.mod.glob.keeps J.bk) hk (B.code.keeps J.bk) hP tr hc (B.bm.keeps J.bk)
    intro ct h2 t2 kp sz
    exact go h2.objs.size b _ ct H _ sz (J.kept (t' := t2) fun a o e => Heap.get?_push_of_some _ (kp a o e)) (.inl rfl) (Heap.get?_push_size _ rfl) (J.hok.fresh sz) hb
  | none =>
    apply PySem.W.kla_makeFunction (mg := X.mg) (c := k) (P := P) (ps := ps) (closure_ok fv) J.ok.glob (J.mod.glob.keeps J.bk) hk (B.code.keeps J.bk) hP tr hc B.gP (B.bm.keeps J.bk)
    intro b ct h2 t2 kp ge lt rec tb
    obtain ⟨b2, oc, vs, tk, e2, ho, hd, hv⟩ := rec
    cases e2
    have hsz : s.heap.objs.size ≤ h2.objs.size := Nat.le_trans ge (Nat.le_of_lt lt)
    have nb : H b = none := J.hok.fresh ge
    have J1 := LamX.inv_table (q := qLam X) (t' := t2) (more := #[rawInt at_.line, rawInt at_.col, .ref b])
      (h' := h2.push (PySem.W.kla_obj "<lambda>" (qLam X) ar bd sc (clLam X sc) ((X.mg "__name__").getD .none) b ct)) J eP
      (fun a o hb e => Heap.get?_push_of_some _ (kp a o hb e)) (Heap.get?_push_of_some _ tb) ge ⟨oc, vs, tk, Heap.get?_push_of_some _ ho, hd, hv⟩
    have eL : (ps ++ #[rawInt at_.line, rawInt at_.col, Value.ref b]).toList = ps.toList ++ [rawInt at_.line, rawInt at_.col, .ref b] := by simp
    refine go h2.objs.size b _ ct _ _ hsz J1 (.inr ⟨b, _, nb, rfl, ?_, fun p v hv => ?_⟩) (Heap.get?_push_size _ rfl) ?_ upd_same
    · rw [eL]
      exact PySem.TriplesOk_snoc _ _ _ _ tr
    · rw [eL] at hv
      exact LamX.among_app _ tr hv
    · have n1 : h2.objs.size ≠ b := Nat.ne_of_gt lt
      have n2 : h2.objs.size ≠ P := Nat.ne_of_gt (Nat.lt_of_lt_of_le (Heap.lt_size hP) hsz)
      rw [upd_ne n1, upd_ne n2]
      exact J.hok.fresh hsz
end
def tLamE (X : Cx) (ar : Arguments) (bd : Expr) (sc : Scope) (dv : Value) (P : Addr) : TE := fun σ H Q => ∃ ps, TabP H P (qLam X) ps ∧ ∀ (H1 : Hp) (f c' : Addr), LamH (qLam X) P ps H H1 → H f = none → H1 f = none → H1 c' = some (LamX.CodeO c' (qLam X)) → Q (.ref f) (upd H1 f (LamO X ar bd sc dv c' f))
theorem pe_lam0 {X : Cx} {k P : Addr} {ar : Arguments} {bd : Expr} {sc : Scope} {at_ : Pos} (B : LamX.TabB X.base X.mg k P) (hk : X.env.code = .ref k) (nd : defaultsOf ar X.env = ([], [])) (fv : X.Ok → ∀ y ∈ sc.names, y.2 = .free → ∃ b, X.env.cells.lookup y.1 = some b) : PE X (.Lambda ar bd sc at_) (tLamE X ar bd sc .none P) := by
  constructor
  intro pins s σ H Q J h
  obtain ⟨ps, ⟨eP, tr, cs⟩, h⟩ := h
  refine lam_new2 J B hk eP tr cs nd (fv J.ok) fun f b pm ct H1 s1 sz J1 lh of nf hb => ?_
  obtain ⟨y1, y2, y3, y4, _⟩ := lam_young J sz
  exact ⟨.ref f, _, inv_tell J1 nf y1 y2 y3 y4 ⟨⟨pm, ct, of⟩, ⟨_, of⟩, fun _ _ ⟨pm, ct, e⟩ st => ⟨pm, ct, st _ e⟩⟩, rfl, h H1 f b lh (J.hok.fresh sz) nf hb⟩
end AH
set_option maxRecDepth 100000
set_option maxHeartbeats 2000000
namespace AH
open PySem PySem.Spec PyProof.Rows L2 TL Classical
abbrev Rn := Sto → Option (VX × Sto)
def ansR (res : Nat → List (Str × D) → Option D) (r : Option (VX × Sto)) : Option (D × Sto) := r.bind fun x => match x.1 with
  | .ok d => some (d, x.2)
  | .ex c fs => (res c fs).map fun d => (d, x.2)
noncomputable def FT (w1 : Wd) (cls : List (Addr × Rn)) (res : Nat → List (Str × D) → Option D) : Fn := fun ds S => match ds with
  | [.fact f H1 X1 i1] => if H1 = w1.H ∧ X1 = w1.Ex ∧ i1 = w1.io then (cls.lookup f).bind fun r => (ansR res (r S)).map fun x => (.v x.1, x.2) else none
  | _ => none
noncomputable def Gx.on (G : Gx) (P : Addr → Prop) (oc : Addr → Obj) : Gx := { G with cel := fun c => if P c then some (oc c) else none }
noncomputable def Wd.up (w : Wd) (P : Addr → Prop) (oc : Addr → Obj) (B : Addr → Prop) : Wd := { w with H := adC P oc w.H, B := B }
noncomputable def Wd.dn (w : Wd) (P : Addr → Prop) : Wd := { w with H := rmC P w.H, B := fun a => w.B a ∧ ¬ P a }
section
variable {K : PySem.W.Frag} {G : Gx} {w w' : Wd} {P : Addr → Prop} {oc : Addr → Obj} {B : Addr → Prop}
theorem RO.on {a : Addr} {o : MO} : RO K (G.on P oc) w a o ↔ RO K G w a o := by
  cases o with
  | lst ds => exact Iff.rfl
  | dic lk kvs => exact Iff.rfl
  | dit lk kvs => exact Iff.rfl
  | ins c ds => exact Iff.rfl
  | tab t q => exact Iff.rfl
/-- B grows by things that nothing tells of, at most -/
theorem mv_up (f : Fre P w.H) (hB : ∀ a, B a → w.B a ∨ P a) : Mv w (w.up P oc B) := ⟨fun _ _ e => e, fun a o e n => ⟨by
  show adC P oc w.H a = _
  rw [ad_out (f.not e)]
  exact e, fun z => by
  rcases z with z | z
  · rcases hB a z with z | z
    · exact n (.inl z)
    · exact f.not e z
  · exact n (.inr z)⟩, fun a o u e => by
  show adC P oc w.H a = _
  rw [ad_out (f.not e)]
  exact e⟩
theorem ok_up (k : Ok K G w) (f : Fre P w.H) (hB : ∀ a, B a → w.B a ∨ P a) : Ok K (G.on P oc) (w.up P oc B) where
  obj := fun l o e => by
    obtain ⟨a, h1, h2⟩ := k.obj l o e
    obtain ⟨u, hu⟩ := h2.some
    exact ⟨a, h1, RO.on.mpr (h2.mono (mv_up f hB) (ad_out (f.not hu)))⟩
  inj := k.inj
  dom := k.dom
  nxt := k.nxt
  dis := fun a b z => by
    rcases hB a b with b | b
    · exact k.dis a b z
    · obtain ⟨u, hu⟩ := k.uh (show w.U a from z)
      exact f.not hu b
  bh := fun a b => by
    by_cases q : P a
    · exact ⟨_, ad_in q⟩
    · obtain ⟨u, hu⟩ := k.bh a ((hB a b).resolve_right q)
      exact ⟨u, (ad_out q).trans hu⟩
  tb := fun a ps e => by
    have e : adC P oc w.H a = some (.tbl ps) := e
    by_cases q : P a
    · rw [ad_in q] at e
      cases e
    · rw [ad_out q] at e
      exact k.tb a ps e
  bx := fun a φ b => by
    show adC P oc w.H a ≠ _
    by_cases q : P a
    · rw [ad_in q]
      exact fun z => by cases z
    · rw [ad_out q]
      exact k.bx a φ ((hB a b).resolve_right q)
  ce := fun c o e => by
    have e : (if P c then some (oc c) else none) = some o := e
    by_cases q : P c
    · rw [if_pos q] at e
      cases e
      exact ad_in q
    · rw [if_neg q] at e
      cases e
theorem on_tol (k : Ok K (G.on P oc) w) : Tol P oc w.H := fun c q => k.ce c (oc c) (if_pos q)
theorem mw_dn (t : Tol P oc w.H) : Mw w (w.dn P) := ⟨fun _ _ e => e, fun a o e c n => ⟨(rm_out (t.not e c)).trans e, fun z => n (z.elim (fun b => .inl b.1) .inr)⟩⟩
theorem ok_dn (k : Ok K (G.on P oc) w) (hG : ∀ c, G.cel c = none) : Ok K G (w.dn P) where
  obj := fun l o e => by
    obtain ⟨a, h1, h2⟩ := k.obj l o e
    exact ⟨a, h1, (RO.on.mp h2).monoW (mw_dn (on_tol k)) (rm_out fun q => RO.nce (ob := oc a) h2 (on_tol k a q))⟩
  inj := k.inj
  dom := k.dom
  nxt := k.nxt
  dis := fun a b => k.dis a b.1
  bh := fun a b => by
    obtain ⟨u, hu⟩ := k.bh a b.1
    exact ⟨u, (rm_out b.2).trans hu⟩
  tb := fun a ps e => by
    have e : rmC P w.H a = some (.tbl ps) := e
    exact k.tb a ps (rm_some e).2
  bx := fun a φ b z => by
    have z : rmC P w.H a = some (.ext φ) := z
    exact k.bx a φ b.1 (rm_some z).2
  ce := fun c o e => by
    rw [hG c] at e
    cases e
/-- behind a run that was not told of the cells -/
theorem fr_up (t : Tol P oc w.H) (f : Fr (w.dn P) w') (k' : Ok K G w') (f' : Fre P w'.H) : Fr w (w'.up P oc w.B) := ⟨f.io, fun a o e n => by
  by_cases q : P a
  · rw [t a q] at e
    cases e
    refine ⟨ad_in q, fun z => ?_⟩
    obtain ⟨u, hu⟩ := k'.uh (show w'.U a from z)
    exact f'.not hu q
  · obtain ⟨h1, h2⟩ := f.hp a o ((rm_out q).trans e) n
    exact ⟨(ad_out q).trans h1, h2⟩, fun a o u e => by
  by_cases q : P a
  · rw [t a q] at e
    exact (ad_in q).trans e
  · exact (ad_out q).trans (f.fz a o u ((rm_out q).trans e)), rfl⟩
theorem hB_up (f : Fr (w.dn P) w') : ∀ a, w.B a → w'.B a ∨ P a := fun a b => by
  by_cases q : P a
  · exact .inr q
  · refine .inl ?_
    rw [f.bb]
    exact ⟨b, q⟩
end
/-- a closure, and what it does -/
def Clo (X : Cx) (G : Gx) (oc : Addr → Obj) (w1 : Wd) (n : Nat) (f : Addr) (r : Rn) : Prop :=
  ∃ (ar : Arguments) (bd : Expr) (sc : Scope) (dv : Value) (c' : Addr) (te : XK → TE) (run : EvV) (ρ : Rho) (σ : L2.St) (binds : List (Str × Value)) (Dc : Hp → Prop), LamS2 X sc ∧ Celly X σ oc ∧ σ.length = X.N.length ∧
    (∀ (pm ctv : Value) (M : Model) (A : Around) (s : Shared) (H : Hp) (Q : List (Str × Value) → Shared → Prop) (Ex : Value → Shared → Prop), HOk X.prog X.w H s.heap → Dc H → Q binds s → wpAny M A (bindArgs { PySem.W.kla_fn "<lambda>" (qLam X) ar bd sc (clLam X sc) pm (.ref c') ctv with defaults := dv } ⟨[], []⟩) Q Ex s) ∧
    (∀ y ∈ binds, sc.names.lookup y.1 = some .local) ∧
    (∀ (A : Around) (outer : List Env) (s : Shared) (H : Hp) (E : XK), Room n (A.deeper (LamX.lamEnv X sc s.heap.objs.size f c')) → PE (LamX.lamCx X A outer s H E sc f c') bd (te E)) ∧
    (∀ E, SEX E X.K G (te E) run) ∧ RS X.K w1 σ ρ ∧ (∀ (i : Nat) (ds : List D), ρ[i]? ≠ some (Sl.acc ds)) ∧ r = run ρ ∧
    (w1.H f = some (LamO X ar bd sc dv c' f) ∧ ¬ w1.Ex f) ∧ (w1.H c' = some (LamX.CodeO c' (qLam X)) ∧ ¬ w1.Ex c') ∧ ∀ H' : Hp, (∀ a o, w1.H a = some o → NoCel o → ¬ w1.Ex a → H' a = some o) → Dc H'
section
variable {P : Program} {w : World} {K : PySem.W.Frag} {mg : Str → Option Value} {base : Heap}
theorem told_body {A : Around} {outer : List Env} {s : Shared} {H : Hp} {Ng : List Str} {x a e nm : Str} {sg : Scope} {g CS : Addr} {cdg : Value} {i : Nat} {b0 : Stmt} {suite : List Stmt} {ts : Addr → Value → Option Addr → TS} {p1 p2 p3 p4 p7 p8 : Pos} {f : Addr} {Q : VK} {tl : XK → Hp → VK → Prop}
    (hge : sg.names.lookup e = some .globalImplicit) (hme : mg e = some (.ref CS)) (hde : (e == ("__debug__" : Str)) = false) (hNd : Ng.Nodup) (hi : Ng[i]? = some nm) (hln : sg.names.lookup nm = some .local) (h0 : (L2.start Ng [V.ref f])[0]? = some (some (V.ref f)))
    (hsu : ∀ (aE : Addr) (oe : Obj) (cls : Value) (d : Option Addr) (pn : List (Addr × Obj)), Zc cls d oe → (∃ vs, oe.data = .fields vs) → PSs (((cxOf C8.CX0 P w K mg base Ng x sg g cdg A outer s H C8.E0).nox).suite aE ((aE, oe) :: pn)) (b0 :: suite) (ts aE cls d))
    (act : ∀ (W : WX) (pn : List (Addr × Obj)) (xe : Value → Shared → Prop) (E : XK) (p1 p2 : Pos), Takes ((cxOf C8.CX0 P w K mg base Ng x sg g cdg A outer s H C8.E0).tr pn xe) W → (∀ cls d σ' H', E cls d H' → W cls d σ' H') →
      PE ((cxOf C8.CX0 P w K mg base Ng x sg g cdg A outer s H C8.E0).tr pn xe) (.Call (.Name a p1) [] [] p2) (fun σZ HZ Q => σZ[0]? = some (some (.ref f)) ∧ tl E HZ Q))
    (h : TTold2 K CS i Ng.length ts tl H Q) : ∃ t, PSs (cxOf C8.CX0 P w K mg base Ng x sg g cdg A outer s H C8.E0).nox [.Try [.Return (some (.Call (.Name a p1) [] [] p2)) p3] [.ExceptHandler (some (.Name e p4)) (some nm) (b0 :: suite) p7] [] [] p8] t ∧ t { nx := fun _ H' => Q .non H', rt := Q } (L2.start Ng [.ref f]) H := by
  have gl : Gl (cxOf C8.CX0 P w K mg base Ng x sg g cdg A outer s H C8.E0).nox e := hge
  refine ⟨_, pss_one (ps_try_as (X := (cxOf C8.CX0 P w K mg base Ng x sg g cdg A outer s H C8.E0).nox) (c := .ref CS)
      (tb := fun W D σ H => ∃ Ech : XK, (∀ cls d σ' H', Ech cls d H' → W cls d σ' H') ∧ σ[0]? = some (some (.ref f)) ∧ tl Ech H D.rt)
      (ts := fun aE cls d D σ H => σ.length = Ng.length → ts aE cls d D σ H)
      rfl rfl hNd hi hln ⟨gl, hde, .inl hme⟩ LamX.takes0 (fun W pn xe tk _ => ?_) (fun aE oe cls d pn hz hf => ⟨fun pins s' σ H' D I h' => (hsu aE oe cls d pn hz hf).run pins s' σ H' D I (h' I.len)⟩)), ?_⟩
  · refine ⟨fun pins s' σ H' D I h' => ?_⟩
    obtain ⟨Ech, hW, q1, q2⟩ := h'
    exact (pss_one (ps_ret (pos := p3) (act W pn xe Ech p1 p2 tk hW))).run pins s' σ H' D I ⟨q1, q2⟩
  · refine ⟨Etold K CS i Ng.length ts Q, fun cls d σ' H' hE => ⟨true, hE.1, fun _ aE na hl => hE.2 aE na σ' ?_, fun z => by cases z⟩, h0, h⟩
    rw [List.length_set] at hl
    exact hl
theorem told_clo {X : Cx} {G : Gx} {oc : Addr → Obj} {w1 : Wd} {res : Nat → List (Str × D) → Option D} {cls : List (Addr × Rn)} {n : Nat} {Ng : List Str} {x a e nm : Str} {pg : Arguments} {sg : Scope} {g CS : Addr} {fd : FuncData} {i : Nat} {b0 : Stmt} {suite : List Stmt} {ts : Addr → Value → Option Addr → TS} {p1 p2 p3 p4 p7 p8 : Pos}
    (F : FunD X.K x x pg [.Try [.Return (some (.Call (.Name a p1) [] [] p2)) p3] [.ExceptHandler (some (.Name e p4)) (some nm) (b0 :: suite) p7] [] [] p8] sg [] [] g fd) (Sg : FnScope Ng [a] sg) (iN : Ng[0]? = some a) (va : Vis sg a)
    (hge : sg.names.lookup e = some .globalImplicit) (hme : X.mg e = some (.ref CS)) (hNd : Ng.Nodup) (hi : Ng[i]? = some nm) (hln : sg.names.lookup nm = some .local) (h0 : ∀ f : Addr, (L2.start Ng [V.ref f])[0]? = some (some (V.ref f)))
    (hsu : ∀ (cdg : Value) (A : Around) (outer : List Env) (s : Shared) (H : Hp) (aE : Addr) (oe : Obj) (cls : Value) (d : Option Addr) (pn : List (Addr × Obj)), Room (n + 1) (A.deeper (envOfC x sg s.heap.objs.size g cdg)) → Zc cls d oe → (∃ vs, oe.data = .fields vs) → PSs (((cxOf C8.CX0 X.prog X.w X.K X.mg X.base Ng x sg g cdg A outer s H C8.E0).nox).suite aE ((aE, oe) :: pn)) (b0 :: suite) (ts aE cls d))
    (hs : Suite X.K (G.on (CelsOf X) oc) CS i Ng.length ts res) (hG : ∀ c, G.cel c = none) (okX : X.Ok) (hc : ∀ f r, cls.lookup f = some r → Clo X G oc w1 n f r)
    (hde : (e == ("__debug__" : Str)) = false := by decide) (d2 : (a == ("__debug__" : Str)) = false := by decide) (d3 : (a == ("__classdict__" : Str)) = false := by decide) :
    FnOk X.prog X.w X.K X.mg X.base C8.CX0 (n + 2) g fd [a] (spOf X.K (G.on (CelsOf X) oc) 1 (FT w1 cls res)) := by
  refine F.ok (k := n + 1) Sg (fun vs H Q E h => ?_) fun cdv A outer s H vs Q E hr h => ?_
  · obtain ⟨_, _, _, _, _, hl, _⟩ := h
    exact hl
  obtain ⟨w, ds, o, S', rfl, hl, ok, rv, hF, ko⟩ := h
  have tol := on_tol ok
  unfold FT at hF
  split at hF
  · rename_i f H1 X1 i1
    split at hF
    · rename_i hq
      obtain ⟨rfl, rfl, rfl⟩ := hq
      obtain ⟨r, hr1, hF⟩ := bnd hF
      obtain ⟨⟨d0, S2⟩, hr2, hF⟩ := Option.map_eq_some_iff.mp hF
      cases hF
      obtain ⟨v, rfl, r1⟩ := rv.one_of
      cases r1 with
      | fact k1 k2 =>
        obtain ⟨ar, bd, sc, dv, c', te, run, ρ, σ, binds, D, L, cy, hσ, hbind, hbl, body, sex, rs, nac, rfl, ⟨e1, n1⟩, ⟨e2, n2⟩, hD⟩ := hc f r hr1
        have noc : ∀ {φ : Heap → Prop}, NoCel (.ext φ) := fun _ _ => nofun
        have lf : LamF X ar bd sc dv c' f oc w.H := ⟨(k2 _ _ e1 noc n1).1, (k2 _ _ e2 noc n2).1, tol⟩
        have hDw : D w.H := hD _ fun a o e c n => (k2 a o e c n).1
        have mw : Mw w1 (w.dn (CelsOf X)) := ⟨k1, fun a o e c n => by
          obtain ⟨q1, q2⟩ := k2 a o e c n
          exact (mw_dn tol).hp a o q1 c q2⟩
        have rsd : RS X.K (w.dn (CelsOf X)) σ ρ := ⟨rs.len, fun i d e => by
          obtain ⟨v, h1, h2⟩ := rs.val i d e
          exact ⟨v, h1, h2.monoW mw⟩, fun i ds e => absurd e (nac i ds)⟩
        have okd := ok_dn ok hG
        unfold ansR at hr2
        obtain ⟨⟨z, S3⟩, hz, hr2⟩ := bnd hr2
        have hk : KV X.K G (w.dn (CelsOf X)) z S3 (fun v H' => Fre (CelsOf X) H' → Q v (adC (CelsOf X) oc H')) (fun cls d H' => Fre (CelsOf X) H' → Etold X.K CS i Ng.length ts Q cls d (adC (CelsOf X) oc H')) := by
          cases z with
          | ok d =>
            cases hr2
            intro v w' ew f' ok' rv' fr'
            have ko : Kd X.K (G.on (CelsOf X) oc) w d0 S3 Q := ko
            refine ko v (w'.up (CelsOf X) oc w.B) ew (fr_up tol f' ok' fr') (ok_up ok' fr' (hB_up f')) (rv'.mono (mv_up fr' (hB_up f')))
          | ex c fs =>
            obtain ⟨d1, hd1, hr2⟩ := Option.map_eq_some_iff.mp hr2
            cases hr2
            obtain ⟨x1, x2⟩ := hs c fs _ hd1
            intro w' dd H' ew f' ok' xr fr'
            have fw : Fre (CelsOf X) w'.H := fun b q => by
              have n := fr' b q
              rcases xr with ⟨_, _, rfl⟩ | ⟨d9, ys, _, hn, _, _, rfl⟩
              · exact n
              · by_cases z : b = d9
                · rw [z]
                  exact hn
                · rw [upd_ne z] at n
                  exact n
            refine ⟨x1, fun aE na σ' hl' => x2 (w'.up (CelsOf X) oc w.B) dd _ aE σ' Q (ok_up ok' fw (hB_up f')) ?_ hl' ?_⟩
            · rcases xr with ⟨a1, a2, rfl⟩ | ⟨d9, ys, a1, hn, a2, a3, rfl⟩
              · exact .inl ⟨a1, a2, rfl⟩
              · have nd : ¬ CelsOf X d9 := fun q => by
                  have n := fr' d9 q
                  rw [upd_same] at n
                  cases n
                refine .inr ⟨d9, ys, a1, (ad_out nd).trans hn, a2, a3.mono (mv_up fw (hB_up f')), ?_⟩
                funext b
                show adC _ oc (upd w'.H d9 (.xd ys)) b = upd (adC _ oc w'.H) d9 (.xd ys) b
                by_cases z : b = d9
                · rw [z, ad_out nd, upd_same, upd_same]
                · rw [upd_ne z]
                  by_cases q : CelsOf X b
                  · rw [ad_in q, ad_in q]
                  · rw [ad_out q, ad_out q, upd_ne z]
            · have ko : Kd X.K (G.on (CelsOf X) oc) w d0 S3 Q := ko
              exact Kd.from (by show Kd _ _ w d0 w'.S Q; rw [ew]; exact ko) (fr_up tol f' ok' fw)
        obtain ⟨t, ht, q⟩ := told_body (tl := fun E HZ Q => LamF X ar bd sc dv c' f oc HZ ∧ D HZ ∧ te (fun cls d H' => Fre (CelsOf X) H' → E cls d (adC (CelsOf X) oc H')) σ (rmC (CelsOf X) HZ) (fun v H' => Fre (CelsOf X) H' → Q v (adC (CelsOf X) oc H'))) (Q := Q) (p1 := p1) (p2 := p2) (p3 := p3) (p4 := p4) (p7 := p7) (p8 := p8)
          hge hme hde hNd hi hln (h0 f) (fun aE oe cls d pn hz hf => hsu cdv A outer s w.H aE oe cls d pn hr hz hf) (fun W pn xe E p1 p2 tk hW => pe_work (i := 0) okX L cy hσ hbind hbl tk hW hr (fun A outer s H E hr => body A outer s H E hr) iN va d2 d3)
          ⟨lf, hDw, sex _ (w.dn (CelsOf X)) σ ρ z S3 okd rsd hz _ hk⟩
        exact ⟨t, ht.nox, q⟩
    · cases hF
  · cases hF
end
end AH
set_option maxRecDepth 100000
set_option maxHeartbeats 2000000
namespace AH
open PySem PySem.Spec PyProof.Rows L2 TL Classical
def NoAcc (ρ : Rho) : Prop := ∀ (i : Nat) (ds : List D), ρ[i]? ≠ some (Sl.acc ds)
structure LamD where
  ev : TE
  run : EvV
/-- a lambda expression, and the closure that it makes -/
def LamOk (X : Cx) (G : Gx) (l t : Nat) (q : Str) (n : Nat) (d : LamD) : Prop := ∀ (w : Wd) (σ : L2.St), Ok X.K G w → w.S.get l = some (.tab t q) → ∀ Q : VK,
  (∀ (w' : Wd) (f : Addr), w'.S = w.S → Fr w w' → Ok X.K G w' → w.H f = none → (∃ o, w'.H f = some o) → (∀ (w3 : Wd) (oc : Addr → Obj) (σ : L2.St) (ρ : Rho), Mv w' w3 → Celly X σ oc → σ.length = X.N.length → RS X.K w3 σ ρ → NoAcc ρ → Clo X G oc w3 n f (d.run ρ)) → Q (.ref f) w'.H) → d.ev σ w.H Q
inductive LamsOk (X : Cx) (G : Gx) (l t : Nat) (q : Str) (n : Nat) : List LamD → Prop
  | nil : LamsOk X G l t q n []
  | cons {d : LamD} {ds : List LamD} : LamOk X G l t q n d → LamsOk X G l t q n ds → LamsOk X G l t q n (d :: ds)
def tLams : List LamD → TA
  | [] => tNil
  | d :: ds => tCons d.ev (tLams ds)
/-- closures that stand at fs -/
inductive CloAt (X : Cx) (G : Gx) (n : Nat) (w : Wd) : List LamD → List Addr → Prop
  | nil : CloAt X G n w [] []
  | cons {d : LamD} {ds : List LamD} {f : Addr} {fs : List Addr} : (∀ (w3 : Wd) (oc : Addr → Obj) (σ : L2.St) (ρ : Rho), Mv w w3 → Celly X σ oc → σ.length = X.N.length → RS X.K w3 σ ρ → NoAcc ρ → Clo X G oc w3 n f (d.run ρ)) → CloAt X G n w ds fs → CloAt X G n w (d :: ds) (f :: fs)
theorem CloAt.mono {X : Cx} {G : Gx} {n : Nat} {w w' : Wd} (m : Mv w w') : ∀ {ds : List LamD} {fs : List Addr}, CloAt X G n w ds fs → CloAt X G n w' ds fs
  | _, _, .nil => .nil
  | _, _, .cons h r => .cons (fun w3 oc σ ρ m3 => h w3 oc σ ρ (m.trans m3)) (r.mono m)
theorem CloAt.append {X : Cx} {G : Gx} {n : Nat} {w : Wd} : ∀ {ds es : List LamD} {fs gs : List Addr}, CloAt X G n w ds fs → CloAt X G n w es gs → CloAt X G n w (ds ++ es) (fs ++ gs)
  | _, _, _, _, .nil, s => s
  | _, _, _, _, .cons h r, s => .cons h (r.append s)
theorem CloAt.look {X : Cx} {G : Gx} {n : Nat} {w : Wd} {oc : Addr → Obj} {σ : L2.St} {ρ : Rho} (cy : Celly X σ oc) (hσ : σ.length = X.N.length) (rs : RS X.K w σ ρ) (nac : NoAcc ρ) : ∀ {ds : List LamD} {fs : List Addr}, CloAt X G n w ds fs → ∀ f r, (fs.zip (ds.map fun d => d.run ρ)).lookup f = some r → Clo X G oc w n f r
  | _, _, .nil, f, r, e => by cases e
  | _, _, .cons (d := d) (f := g) h t, f, r, e => by
    rw [List.map_cons, List.zip_cons_cons, List.lookup_cons] at e
    split at e
    · rename_i q
      have q : f = g := by simpa using q
      cases e
      rw [q]
      exact h w oc σ ρ (Mv.refl w) cy hσ rs nac
    · exact t.look cy hσ rs nac f r e
theorem lams_ev {X : Cx} {G : Gx} {l t n : Nat} {q : Str} : ∀ {ds : List LamD}, LamsOk X G l t q n ds → ∀ (w : Wd) (σ : L2.St), Ok X.K G w → w.S.get l = some (.tab t q) → ∀ Q : List V → Hp → Prop,
    (∀ (w' : Wd) (fs : List Addr), w'.S = w.S → Fr w w' → Ok X.K G w' → fs.Nodup → (∀ f ∈ fs, w.H f = none ∧ ∃ o, w'.H f = some o) → CloAt X G n w' ds fs → Q (fs.map V.ref) w'.H) → tLams ds σ w.H Q
  | _, .nil, w, σ, ok, hl, Q, k => k w [] rfl (Fr.refl w) ok .nil (fun f hf => nomatch hf) .nil
  | _, .cons h r, w, σ, ok, hl, Q, k => by
    refine h w σ ok hl _ fun w1 f e1 f1 ok1 n1 s1 c1 => ?_
    refine lams_ev r w1 σ ok1 (by rw [e1]; exact hl) _ fun w2 fs e2 f2 ok2 nd nf c2 => ?_
    refine k w2 (f :: fs) (e2.trans e1) (f1.trans f2) ok2 ?_ ?_ (.cons (fun w3 oc σ ρ m => c1 w3 oc σ ρ (f2.mv.trans m)) c2)
    · refine List.nodup_cons.mpr ⟨fun hf => ?_, nd⟩
      obtain ⟨o, ho⟩ := s1
      rw [(nf f hf).1] at ho
      cases ho
    · intro g hg
      rcases List.mem_cons.mp hg with rfl | hg
      · refine ⟨n1, ?_⟩
        obtain ⟨o, ho⟩ := s1
        cases z : w2.H g with
        | some o => exact ⟨o, rfl⟩
        | none =>
          rw [f2.free' ok2 z] at ho
          cases ho
      · obtain ⟨q1, q2⟩ := nf g hg
        refine ⟨?_, q2⟩
        cases z : w.H g with
        | none => rfl
        | some o =>
          have := f1.free' ok1 q1
          rw [z] at this
          cases this
def bAll (F : Fn) : EvS := (sRet (e2 fEq (eV (fLc (iL (eVar 0)) [2] (pNm 2) (tNotE (tOf (eN (callE (F_alike 8)) (aCons (eN (callE F) (aCons (eVar 2) aNil)) (aCons (eVar 1) aNil))))) (eVar 2))) (eV (fLst aNil))))
def F_all (F : Fn) : Fn := runB 2 3 (bAll F)
def allRun (res : Nat → List (Str × D) → Option D) (d : D) : List Rn → Sto → Option Sto
  | [], S => some S
  | r :: rs, S => (ansR res (r S)).bind fun x => (F_alike 8 [x.1, d] x.2).bind fun y => match y.1 with
    | .v (.bl true) => allRun res d rs y.2
    | _ => none
noncomputable def eAll (l t : Nat) (q : Str) (runs : List EvV) (due : Ev) (res : Nat → List (Str × D) → Option D) : Ev := fun ρ S => if S.get l = some (.tab t q) ∧ NoAcc ρ then (due ρ S).bind fun x => (allRun res x.1 (runs.map fun r => r ρ) x.2).map fun S' => (.bl true, S') else none
theorem all_run {res : Nat → List (Str × D) → Option D} {d : D} {w1 : Wd} {cls : List (Addr × Rn)} {fs : List Addr} {rs : List Rn} {S S2 : Sto} (hl : fs.length = rs.length) (hc : ∀ (k : Nat) (f : Addr) (r : Rn), fs[k]? = some f → rs[k]? = some r → cls.lookup f = some r) (h : allRun res d rs S = some S2) :
    F_all (FT w1 cls res) [.lst (fs.map fun f => .fact f w1.H w1.Ex w1.io), d] S = some (.v (.bl true), S2) := by
  suffices hw : W (F_all (FT w1 cls res) [.lst (fs.map fun f => .fact f w1.H w1.Ex w1.io), d] S) fun o S' => o = .v (.bl true) ∧ S' = S2 by
    obtain ⟨o, S', e, rfl, rfl⟩ := hw
    exact e
  refine w_run rfl ?_
  show WS (bAll (FT w1 cls res) [.val (.lst (fs.map fun f => .fact f w1.H w1.Ex w1.io)), .val d, .no] S) _
  unfold bAll
  refine ws_ret (we_2 (we_V (wl_lc ?_)))
  refine wi_L (we_var rfl (.inl ⟨_, rfl, ?_⟩))
  refine ⟨fun k out S' => out = [] ∧ allRun res d (rs.drop k) S' = some S2, ⟨rfl, h⟩, ?_, ?_⟩
  · rintro k x out S' hk ⟨rfl, hr⟩
    rw [List.getElem?_map] at hk
    obtain ⟨f, hf, rfl⟩ := Option.map_eq_some_iff.mp hk
    have kl : k < rs.length := by
      rw [← hl]
      exact (List.getElem?_eq_some_iff.mp hf).1
    have hrk : rs[k]? = some rs[k] := List.getElem?_eq_getElem kl
    rw [List.drop_eq_getElem_cons kl] at hr
    have hlk := hc k f _ hf hrk
    generalize rs[k] = r at hr hlk
    obtain ⟨⟨v, S3⟩, e1, hr⟩ := bnd hr
    obtain ⟨⟨y, S4⟩, e2, hr⟩ := bnd hr
    refine ⟨_, rfl, ?_⟩
    refine wt_not (wt_of (we_n (wl_cons (we_n (wl_cons (we_var rfl (wl_nil (we_call ?_))))))))
    refine ⟨.v v, S3, ?_, ?_⟩
    · unfold FT
      dsimp only
      rw [if_pos ⟨rfl, rfl, rfl⟩, hlk]
      show (ansR res (r S')).map _ = _
      rw [e1]
      rfl
    refine wl_cons (we_var rfl (wl_nil (we_call ?_)))
    refine ⟨y, S4, e2, ?_⟩
    dsimp only at hr
    split at hr
    · refine ⟨true, rfl, fun _ => ⟨rfl, hr⟩, fun z => by cases z⟩
    · cases hr
  · rintro out S' ⟨rfl, hr⟩
    have e : rs.drop (List.map (fun f => D.fact f w1.H w1.Ex w1.io) fs).length = [] := by
      rw [List.length_map, hl]
      exact List.drop_length
    rw [e] at hr
    cases hr
    refine ⟨by simp, we_V (wl_lst (wl_nil ⟨by simp, ?_⟩))⟩
    exact ⟨_, _, rfl, rfl, rfl⟩
def spAll (X : Cx) (G : Gx) (n : Nat) : Sp := fun vs H Q E => X.Ok ∧ ∃ (oc : Addr → Obj) (w1 : Wd) (cls : List (Addr × Rn)), (∀ f r, cls.lookup f = some r → Clo X G oc w1 n f r) ∧ spOf X.K (G.on (CelsOf X) oc) 2 (F_all (FT w1 cls toldV)) vs H Q E
theorem fn_all {X : Cx} {G : Gx} {n k : Nat} {g : Addr} {fd : FuncData} {ps : List Str} (hp : ps.length = 2) (hall : X.Ok → ∀ (oc : Addr → Obj) (w1 : Wd) (cls : List (Addr × Rn)), (∀ f r, cls.lookup f = some r → Clo X G oc w1 n f r) → FnOk X.prog X.w X.K X.mg X.base C8.CX0 k g fd ps (spOf X.K (G.on (CelsOf X) oc) 2 (F_all (FT w1 cls toldV)))) :
    FnOk X.prog X.w X.K X.mg X.base C8.CX0 k g fd ps (spAll X G n) := by
  refine ⟨fun vs H Q E h => ?_, fun A outer s H args us vs Q E hr e0 hb r h => ?_⟩
  · obtain ⟨_, _, _, _, _, h⟩ := h
    obtain ⟨_, _, _, _, _, hl, _⟩ := h
    rw [hp]
    exact hl
  · obtain ⟨ok, oc, w1, cls, hc, h⟩ := h
    exact (hall ok oc w1 cls hc).run A outer s H args us vs Q E hr e0 hb r h
theorem dn_eq {G : Gx} {K : PySem.W.Frag} {w3 w5 : Wd} {P : Addr → Prop} (k : Ok K G w3) (f : Fre P w3.H) (hb : w5.B = w3.B) : (w5.dn P).B = w3.B := by
  funext a
  refine propext ⟨fun z => ?_, fun z => ?_⟩
  · have z1 := z.1
    rw [hb] at z1
    exact z1
  · refine ⟨by rw [hb]; exact z, fun q => ?_⟩
    obtain ⟨u, hu⟩ := k.bh a z
    exact f.not hu q
theorem fr_dn {G : Gx} {K : PySem.W.Frag} {w3 w5 : Wd} {P : Addr → Prop} {oc : Addr → Obj} (k : Ok K G w3) (f : Fre P w3.H) (h : Fr (w3.up P oc w3.B) w5) : Fr w3 (w5.dn P) := ⟨h.io, fun a o e n => by
  have q := f.not e
  obtain ⟨h1, h2⟩ := h.hp a o ((ad_out q).trans e) n
  exact ⟨(rm_out q).trans h1, h2⟩, fun a o u e => by
  have q := f.not e
  exact (rm_out q).trans (h.fz a o u ((ad_out q).trans e)), dn_eq k f h.bb⟩
theorem RVs.facts {K : PySem.W.Frag} {w3 w4 : Wd} (h1 : ∀ l a, w3.io l = some a → w4.io l = some a) (h2 : ∀ a o, w3.H a = some o → NoCel o → ¬ w3.Ex a → w4.H a = some o ∧ ¬ w4.Ex a) : ∀ fs : List Addr, RVs K w4 (fs.map V.ref) (fs.map fun f => .fact f w3.H w3.Ex w3.io)
  | [] => .nil
  | f :: fs => .cons (.fact h1 h2) (RVs.facts h1 h2 fs)
theorem zip_look {fs : List Addr} {rs : List Rn} (nd : fs.Nodup) : ∀ (k : Nat) (f : Addr) (r : Rn), fs[k]? = some f → rs[k]? = some r → (fs.zip rs).lookup f = some r := by
  induction fs generalizing rs with
  | nil => intro k f r h; simp at h
  | cons g fs ih =>
    intro k f r h1 h2
    cases rs with
    | nil => simp at h2
    | cons r0 rs =>
      rw [List.zip_cons_cons, List.lookup_cons]
      rw [List.nodup_cons] at nd
      cases k with
      | zero =>
        simp at h1 h2
        subst h1 h2
        simp
      | succ k =>
        simp at h1 h2
        have ne : f ≠ g := fun e => nd.1 (by rw [← e]; exact List.mem_of_getElem? h1)
        have : (f == g) = false := by simpa using ne
        rw [this]
        exact ih nd.2 k f r h1 h2
theorem CloAt.len {X : Cx} {G : Gx} {n : Nat} {w : Wd} : ∀ {ds : List LamD} {fs : List Addr}, CloAt X G n w ds fs → fs.length = ds.length
  | _, _, .nil => rfl
  | _, _, .cons _ r => congrArg (· + 1) r.len
/-- from the arguments on -/
theorem all_core {X : Cx} {G : Gx} {n : Nat} {ds : List LamD} {fs : List Addr} {p : Addr} {vd : V} {dd : D} {w w3 : Wd} {σ : L2.St} {ρ : Rho} {S2 : Sto} {Q : VK} (hG : ∀ c, G.cel c = none) (ok3 : Ok X.K G w3) (f3 : Fr w w3) (rs3 : RS X.K w3 σ ρ) (nac : NoAcc ρ)
    (hp : w3.H p = some (.lst (fs.map V.ref))) (np : ¬ w3.Ex p) (rd : RV X.K w3 vd dd) (nd : fs.Nodup) (cl : CloAt X G n w3 ds fs) (hr : allRun toldV dd (ds.map fun d => d.run ρ) w3.S = some S2) (k : Kd X.K G w (.bl true) S2 Q)
    (okX : X.Ok) (hσ : σ.length = X.N.length) (fr : Fre (CelsOf X) w3.H) (oc : Addr → Obj) (cy : Celly X σ oc) : spAll X G n [.ref p, vd] (adC (CelsOf X) oc w3.H) (fun v H' => Tol (CelsOf X) oc H' ∧ Q v (rmC (CelsOf X) H')) C8.E0 := by
  refine ⟨okX, oc, w3, fs.zip (ds.map fun d => d.run ρ), cl.look cy hσ rs3 nac, ?_⟩
  have m4 : Mv w3 (w3.up (CelsOf X) oc w3.B) := mv_up fr fun a b => .inl b
  refine ⟨w3.up (CelsOf X) oc w3.B, [.lst (fs.map fun f => .fact f w3.H w3.Ex w3.io), dd], .v (.bl true), S2, rfl, rfl, ok_up ok3 fr (fun a b => .inl b), .cons (.lst (m4.hp _ _ hp np).1 (m4.hp _ _ hp np).2 (RVs.facts m4.io (fun a o e _ n => m4.hp a o e n) fs)) (.cons (rd.mono m4) .nil), ?_, ?_⟩
  · refine all_run ?_ (zip_look nd) hr
    rw [List.length_map]
    exact cl.len
  · intro v w5 e5 f5 ok5 r5
    refine ⟨on_tol ok5, k v (w5.dn (CelsOf X)) e5 (f3.trans (fr_dn ok3 fr f5)) (ok_dn ok5 hG) ?_⟩
    cases r5
    exact .bl
def tCallB (X : Cx) (sp : Sp) (ta : TA) : TE := fun σ H Q => ta σ H fun vs H1 => X.Ok → σ.length = X.N.length → Fre (CelsOf X) H1 → ∀ oc : Addr → Obj, Celly X σ oc → sp vs (adC (CelsOf X) oc H1) (fun v H' => Tol (CelsOf X) oc H' ∧ Q v (rmC (CelsOf X) H')) C8.E0
theorem pe_callB2 {X : Cx} {x : Str} {f : Addr} {fd : FuncData} {ps : List Str} {sp : Sp} {k : Nat} {e : Expr} {es : List Expr} {p pos : Pos} {t : TA} (F : FnOk X.prog X.w X.K X.mg X.base C8.CX0 k f fd ps sp) (hr : Room k X.A) (hg : Gl X x) (hm : X.mg x = some (.ref f)) (hk : PySem.W.keepIn X.K (.ref f) = true)
    (hb : L2.Binds X.K fd ps []) (hfn : ∀ y, X.fn y = true) (ha : PA X (e :: es) t) (hdb : (x == ("__debug__" : Str)) = false := by decide) (he : starEach (e :: es) X.env = (false, eval e X.env) :: starEach es X.env := by rfl) (hpl : (backTo pos (starEach es X.env)).any (·.1) = false := by rfl) :
    PE X (.Call (.Name x p) (e :: es) [] pos) (tCallB X sp t) := by
  constructor
  intro pins s σ H Q J h
  apply wpAny_Call_Name_kw
  apply ld_glob J hg hm _ hdb
  refine PySem.W.callWith_K (h₀ := X.base) J.ok.mod.kin hk (thn (ha.run pos pins s σ H _ J h) fun us s1 ⟨vs, H1, J1, r, q⟩ => ⟨J1.kIn, ?_⟩) he hpl
  obtain ⟨oc, cy, is⟩ := Inv.ocs J1
  have fr := Inv.fre J1
  have q := q J1.ok J1.len fr oc cy
  have hl : (us ++ []).length = ps.length := by
    rw [List.append_nil, ← r.length]
    exact F.len _ _ _ _ q
  have r2 : Vals vs (us ++ []) := by rw [List.append_nil]; exact r
  refine wpAny_call (codeAny_mono (F.run X.A X.stack s1 _ ⟨us, []⟩ (us ++ []) vs _ _ hr (Inv.env0A J1 hfn is) (hb s1 us J1.kIn hl) r2 q) fun z s2 hq => ?_)
  match z, hq with
  | .error e, hq => exact (show False from hq).elim
  | .ok (.ret u), hq =>
    obtain ⟨v, H', os, bare, un, hok, rv, tl, qq⟩ := hq
    exact J1.after ⟨v, rmC (CelsOf X) H', os, bare, un_rm un fr is tl hok, hok_rm tl hok, rv, qq⟩
theorem se_all {X : Cx} {G : Gx} {l t n : Nat} {q : Str} {ds : List LamD} {td : TE} {due : Ev} (hG : ∀ c, G.cel c = none) (hs : LamsOk X G l t q n ds) (hd : SE X.K G td due) (hz : ds.length ≤ 100) :
    SE X.K G (tCallB X (spAll X G n) (tCons (tLst (tLams ds)) (tCons td tNil))) (eAll l t q (ds.map fun d => d.run) due toldV) := fun w σ ρ d S' o rs h Q k => by
  unfold eAll at h
  split at h
  · rename_i hc
    obtain ⟨hl, nac⟩ := hc
    obtain ⟨⟨dx, S1⟩, h1, h⟩ := bnd h
    obtain ⟨S2, h2, h⟩ := Option.map_eq_some_iff.mp h
    cases h
    have h2 : allRun toldV dx ((ds.map fun d => d.run).map fun r => r ρ) S1 = some S' := h2
    rw [List.map_map] at h2
    refine lams_ev hs w σ o hl _ fun w1 fs e1 f1 o1 nd nf cl => ?_
    refine ⟨?_, fun p hp => ?_⟩
    · rw [List.length_map, cl.len, sizeLine_eq]
      omega
    have f2 : Fr w1 (w1.add p (.lst (fs.map V.ref))) := Fr.add hp
    have o2 : Ok X.K G (w1.add p (.lst (fs.map V.ref))) := o1.add hp
    refine hd (w1.add p (.lst (fs.map V.ref))) σ ρ dx S1 o2 (rs.fr o (f1.trans f2)) (by rw [show (w1.add p (.lst (fs.map V.ref))).S = w1.S from rfl, e1]; exact h1) _ fun v w3 e3 f3 o3 r3 => ?_
    have np1 : ¬ w1.Ex p := o1.fresh hp
    have hp2 : (w1.add p (.lst (fs.map V.ref))).H p = some (.lst (fs.map V.ref)) := upd_same
    have np2 : ¬ (w1.add p (.lst (fs.map V.ref))).Ex p := np1
    obtain ⟨q1, q2⟩ := f3.mv.hp _ _ hp2 np2
    intro okX hσ fr oc cy
    exact all_core (ds := ds) hG o3 ((f1.trans f2).trans f3) (rs.fr o ((f1.trans f2).trans f3)) nac q1 q2 r3 nd (cl.mono (f2.mv.trans f3.mv)) (by rw [e3]; exact h2) k okX hσ fr oc cy
  · cases h
end AH
set_option maxRecDepth 100000
set_option maxHeartbeats 2000000
namespace AH
open PySem PySem.Spec PyProof.Rows L2 TL Classical
theorem RO.nx {K : PySem.W.Frag} {G : Gx} {w : Wd} {a : Addr} {φ : Heap → Prop} : ∀ {o : MO}, RO K G w a o → w.H a ≠ Option.some (.ext φ)
  | .lst ds, ⟨vs, h, r⟩, z => by rw [h] at z; cases z
  | .dic false kvs, ⟨ks, h, r⟩, z => by rw [show w.H a = Option.some (.dK ks) from h] at z; cases z
  | .dic true kvs, ⟨ks, ⟨od, h⟩, r⟩, z => by rw [h] at z; cases z
  | .dit false kvs, ⟨ks, h, r⟩, z => by rw [show w.H a = Option.some (.dT ks) from h] at z; cases z
  | .dit true kvs, ⟨ks, ⟨od, h⟩, r⟩, z => by rw [h] at z; cases z
  | .ins c ds, ⟨dx, gs, h, h1, h2, r⟩, z => by rw [h] at z; cases z
  | .tab t q, ⟨h0, ps, h, h1, h2⟩, z => by rw [h] at z; cases z
theorem Ok.nx {K : PySem.W.Frag} {G : Gx} {w : Wd} (k : Ok K G w) {a : Addr} {φ : Heap → Prop} (h : w.H a = some (.ext φ)) : ¬ w.Ex a := fun z => by
  rcases z with z | ⟨l, z⟩
  · exact k.bx a φ z h
  · cases e : w.S.get l with
    | none =>
      rw [k.dom l e] at z
      cases z
    | some o =>
      obtain ⟨b, h1, h2⟩ := k.obj l o e
      rw [z] at h1
      cases h1
      exact RO.nx h2 h
theorem ft_len {w1 : Wd} {cls : List (Addr × Rn)} {res : Nat → List (Str × D) → Option D} : ∀ ds S r, FT w1 cls res ds S = some r → ds.length = 1 := fun ds S r h => by
  unfold FT at h
  split at h
  · rfl
  · cases h
def fNotB (a b : D) (S : Sto) : Option (D × Sto) := match a, b with
  | .bl x, .bl y => some (.bl (!decide (x = y)), S)
  | _, _ => none
theorem s2_notB {K : PySem.W.Frag} {G : Gx} : S2 K G rNotB fNotB := fun w x y dx dy d S' o rx ry hh Q k => by
  unfold fNotB at hh
  split at hh
  · cases hh
    cases rx
    cases ry
    exact ⟨_, _, rfl, rfl, Kd.now k o .bl⟩
  · cases hh
theorem se_allK {X : Cx} {K : PySem.W.Frag} {G : Gx} {l t n : Nat} {q : Str} {ds : List LamD} {td : TE} {due : Ev} (hK : X.K = K) (hG : ∀ c, G.cel c = none) (hs : LamsOk X G l t q n ds) (hd : SE K G td due) (hz : ds.length ≤ 100) :
    SE K G (tCallB X (spAll X G n) (tCons (tLst (tLams ds)) (tCons td tNil))) (eAll l t q (ds.map fun d => d.run) due toldV) := by
  subst hK
  exact se_all hG hs hd hz
theorem LamS2.of {X : Cx} {sc : Scope} (L : LamX.LamS X.env.scope sc) : LamS2 X sc := ⟨L.kind, L.co, L.gen, fun y hy => (L.own y hy).2, fun y hy e => absurd e (L.own y hy).1, fun y hy e => L.free y hy e⟩
theorem lam_ok0 {X : Cx} {G : Gx} {l t n : Nat} {q : Str} {ar : Arguments} {bd : Expr} {sc : Scope} {P : Addr} {te : XK → TE} {run : EvV} (hq : q = qLam X) (hP : G.tm t = P) (L : LamX.LamS X.env.scope sc)
    (hb : ∀ (cl : List (Str × Addr)) (pm cv ctv : Value), bindArgs (PySem.W.kla_fn "<lambda>" (qLam X) ar bd sc cl pm cv ctv) ⟨[], []⟩ = pure [])
    (body : ∀ (A : Around) (outer : List Env) (s : Shared) (H : Hp) (E : XK) (f c' : Addr), Room n (A.deeper (LamX.lamEnv X sc s.heap.objs.size f c')) → PE (LamX.lamCx X A outer s H E sc f c') bd (te E)) (sex : ∀ E, SEX E X.K G (te E) run) :
    LamOk X G l t q n ⟨tLamE X ar bd sc .none P, run⟩ := fun w σ ok hl Q k => by
  subst hq hP
  obtain ⟨ps, hp, st⟩ := lam_step hl ok
  refine ⟨ps, hp, fun H1 f c' lh nf nf1 hc => ?_⟩
  obtain ⟨f1, o1⟩ := st H1 lh
  have nt : ∀ ps, LamO X ar bd sc .none c' f ≠ .tbl ps := fun ps z => by unfold LamO at z; cases z
  have f2 : Fr ({ w with H := H1 } : Wd) (Wd.add { w with H := H1 } f (LamO X ar bd sc .none c' f)) := Fr.add nf1
  have o2 : Ok X.K G (Wd.add { w with H := H1 } f (LamO X ar bd sc .none c' f)) := o1.add nf1 nt
  refine k (Wd.add { w with H := H1 } f (LamO X ar bd sc .none c' f)) f rfl (f1.trans f2) o2 nf ⟨_, upd_same⟩ fun w3 oc σ ρ m cy hσ rs nac => ?_
  have hf : (Wd.add { w with H := H1 } f (LamO X ar bd sc .none c' f)).H f = some (LamO X ar bd sc .none c' f) := upd_same
  have hc2 : (Wd.add { w with H := H1 } f (LamO X ar bd sc .none c' f)).H c' = some (LamX.CodeO c' (qLam X)) := by
    show upd H1 f _ c' = _
    rw [upd_ne (ne_of_none hc nf1)]
    exact hc
  refine ⟨ar, bd, sc, .none, c', te, run, ρ, σ, [], fun _ => True, .of L, cy, hσ, fun pm ctv M A s H Q Ex _ _ h => ?_, (fun y hy => nomatch hy), fun A outer s H E hr => body A outer s H E f c' hr, sex, rs, nac, rfl, m.hp _ _ hf (o2.nx hf), m.hp _ _ hc2 (o2.nx hc2), fun _ _ => trivial⟩
  have e := hb (clLam X sc) pm (.ref c') ctv
  have e2 : ({ PySem.W.kla_fn "<lambda>" (qLam X) ar bd sc (clLam X sc) pm (.ref c') ctv with defaults := .none } : FuncData) = PySem.W.kla_fn "<lambda>" (qLam X) ar bd sc (clLam X sc) pm (.ref c') ctv := rfl
  rw [e2, e]
  exact wpAny_pure h
end AH
set_option maxRecDepth 100000
set_option maxHeartbeats 4000000
namespace AH
open PySem L2 TL
end AH
set_option maxRecDepth 100000
set_option maxHeartbeats 4000000
namespace AH
open PySem L2 TL
section
variable {S : Sto} {A A' X Y : Hm} {l : Nat} {ρ : Rho}
/-- a list against the same one -/
theorem eqD_same {x y : D} {xs : List D} (hx : lstOf S x = some xs) (hy : lstOf S y = some xs) (h : ∀ d ∈ xs, Sd d) : eqD S x y = some true := by
  obtain ⟨ps, h1, h2, h3⟩ := sd_all h
  have e1 : ∀ x, lstOf S x = some xs → toPyS S x = some (.list ps) ∧ ((∃ ds, x = .lst ds) ∨ ∃ l, x = .ref l) := fun x hx => by
    unfold lstOf at hx
    split at hx
    · cases hx
      refine ⟨?_, .inl ⟨_, rfl⟩⟩
      show (toPys xs).map PyData.list = _
      rw [h1]
      rfl
    · rename_i l
      refine ⟨?_, .inr ⟨_, rfl⟩⟩
      split at hx
      · rename_i es g
        cases hx
        unfold toPyS
        dsimp only
        rw [g]
        dsimp only
        rw [h1]
        rfl
      · cases hx
    · cases hx
  have sh : SeqAt.shaped (.list ps) = true := by
    show (PyData.canLayAll0 ps && decide (PyData.depthAll ps + 1 ≤ 64)) = true
    rw [h2, decide_eq_true (by omega)]
    rfl
  obtain ⟨a1, a2⟩ := e1 x hx
  obtain ⟨b1, b2⟩ := e1 y hy
  have fin : (match toPyS S x, toPyS S y with
    | some p, some q => eqPy p q
    | _, _ => none) = some true := by
    rw [a1, b1]
    exact eqPy_self sh
  rcases a2 with ⟨ds, rfl⟩ | ⟨l, rfl⟩ <;> rcases b2 with ⟨ds', rfl⟩ | ⟨l', rfl⟩ <;> exact fin
theorem wo_neSame {x y : D} {xs : List D} {P : D → Sto → Prop} (hx : lstOf S x = some xs) (hy : lstOf S y = some xs) (h : ∀ d ∈ xs, Sd d) (k : P (.bl false) S) : W (fNe x y S) P := by
  refine ⟨_, _, ?_, k⟩
  unfold fNe
  rw [eqD_same hx hy h]
  rfl
theorem wo_eqSame {x y : D} {xs : List D} {P : D → Sto → Prop} (hx : lstOf S x = some xs) (hy : lstOf S y = some xs) (h : ∀ d ∈ xs, Sd d) (k : P (.bl true) S) : W (fEq x y S) P := by
  refine ⟨_, _, ?_, k⟩
  unfold fEq
  rw [eqD_same hx hy h]
  rfl
def SdN (k : Nat) (d : D) : Prop := ∃ p, toPy d = some p ∧ p.canLay0 = true ∧ p.depth ≤ k
theorem SdN.mono {k n : Nat} {d : D} (h : SdN k d) (e : k ≤ n) : SdN n d := by
  obtain ⟨p, a, b, c⟩ := h
  exact ⟨p, a, b, Nat.le_trans c e⟩
theorem SdN.note {n s c : Nat} (h : c < 128) : SdN 1 (noteD n s c) := by
  have o : okS [c] := okS_lt fun x hx => by rw [List.mem_singleton] at hx; omega
  refine ⟨.tuple [.int n, .int s, .str ⟨[c].toArray⟩], rfl, ?_, ?_⟩
  · have e := okS_lay o
    show (true && (true && (PyData.canLay0 _ && true))) = true
    rw [e]
    rfl
  · show max 0 (max 0 (max 0 0)) + 1 ≤ 1
    decide
/-- what is typed: a tuple of two numbers and a sign -/
structure SdT (d : D) : Prop where
  n : SdN 1 d
  t : ∃ (a b : Int) (c : List Nat), d = .tup [.int a, .int b, .str c]
theorem SdT.note {n s c : Nat} (h : c < 128) : SdT (noteD n s c) := ⟨.note h, n, s, [c], rfl⟩
end
end AH
set_option maxRecDepth 100000
set_option maxHeartbeats 4000000
namespace K12
open AH PySem L2 TL
noncomputable section
def fl (c : Nat) : List Str := match c with
  | 0 => ["kept", "text", "work", "many", "past", "notes"]
  | 1 => ["head", "size", "kept", "text", "version", "first", "signs", "gone", "past"]
  | 2 => ["session", "pane", "done", "knows", "here"]
  | 3 => ["places", "seats"]
  | _ => []
def b_Look_press : EvX := (xSeq (xIf (tOrE (tOf (eFld 1 7 (eVar 0))) (tOf (eFld 1 8 (eVar 0)))) (xRaise 106) (xL sNext))
  (xSeq (xL (sDo (eN (callE AH.F_need_signs) (aCons (eVar 1) aNil))))
  (xL (sPutF 1 6 (eVar 0) (e2 fAdd (eFld 1 6 (eVar 0)) (eVar 1))))))
def F_Look_press : FnX := runX 2 2 b_Look_press
def b_Look_press_o : EvS := (sSeq (sIf (tOrE (tOf (eFld 1 7 (eVar 0))) (tOf (eFld 1 8 (eVar 0)))) sNever sNext)
  (sSeq (sDo (eN (callE AH.F_need_signs) (aCons (eVar 1) aNil)))
  (sPutF 1 6 (eVar 0) (e2 fAdd (eFld 1 6 (eVar 0)) (eVar 1)))))
def F_Look_press_o : Fn := runB 2 2 b_Look_press_o
def b__law_told (c : Nat) (a : Addr) (d : Option Addr) : EvS := (sSeq (sAsg (eV (fLst (aCons (eIsX a d (decide (c = 100)) 1) (aCons (eIsX a d (decide (c = 101)) 1) (aCons (eIsX a d (decide (c = 102)) 1) (aCons (eIsX a d (decide (c = 103)) 1) aNil)))))) (gNm 2))
  (sSeq (sAsg (eV (e2 fCat (eVar 2) (eV (fLst (aCons (eIsX a d (decide (c = 104)) 1) (aCons (eIsX a d (decide (c = 105)) 1) (aCons (eIsX a d (decide (c = 106)) 1) aNil))))))) (gNm 2))
  (sSeq (sIf (tOrE (tOf (e2 fNe (eBMV fCntB (eVar 2) (aCons (eC (.bl true)) aNil)) (eC (.int 1)))) (tNotE (tOf (eIsX a d true 1)))) (sRet (eTup (aCons (eC (.str [111, 116, 104, 101, 114])) (aCons (eC (.int 0)) aNil)))) sNext)
  (sSeq (sAsg (e2 fIx (eV (fLst (aCons (eC (.str [66, 97, 100, 67, 111, 117, 110, 116])) (aCons (eC (.str [66, 97, 100, 70, 105, 101, 108, 100, 115])) (aCons (eC (.str [66, 97, 100, 76, 111, 111, 107])) (aCons (eC (.str [66, 97, 100, 83, 105, 103, 110])) (aCons (eC (.str [66, 97, 100, 83, 105, 122, 101])) (aCons (eC (.str [66, 97, 100, 84, 101, 120, 116])) (aCons (eC (.str [78, 111, 76, 111, 111, 107])) aNil))))))))) (eBMV fIdxB (eVar 2) (aCons (eC (.bl true)) aNil))) (gNm 3))
  (sSeq (sIf (tOf (e2 fEq (eVar 3) (eC (.str [66, 97, 100, 83, 105, 103, 110])))) (sRet (eTup (aCons (eVar 3) (aCons (eXf a d (decide (c = 103)) 1 "place") aNil)))) sNext)
  (sRet (eTup (aCons (eVar 3) (aCons (eIf (tOf (e2 fEq (eVar 3) (eC (.str [66, 97, 100, 84, 101, 120, 116])))) (eXf a d (decide (c = 105)) 1 "row") (eC (.int 0))) aNil)))))))))
def b__law_all_hear : EvS := (sSeq (sFor (iL (eVar 2)) (gNm 3) (sDo (eMt 3 AH.F_Hall_hear (eVar 0) (aCons (eVar 3) aNil))))
  (sFor (fMt 3 AH.F_Hall_letters (eVar 0) aNil) (gTp 2 (gsCons (gNm 4) (gsCons (gNm 3) gsNil))) (sForR (eVar 1) (gTp 3 (gsCons (gNm 5) (gsCons (gNm 6) (gsCons (gNm 7) gsNil)))) (sDo (eMt 1 AH.F_Look_hear (eVar 5) (aCons (eVar 3) aNil))))))
def F__law_all_hear : Fn := runB 3 8 b__law_all_hear
def b__law_is_last : EvS := (sSeq (sFor (iR1 (aCons (eC (.int 12)) aNil)) (gNm 3) (sForR (eVar 1) (gTp 3 (gsCons (gNm 4) (gsCons (gNm 5) (gsCons (gNm 6) gsNil)))) (sDo (eN (callE F__law_all_hear) (aCons (eVar 0) (aCons (eVar 1) (aCons (eMt 1 AH.F_Look_letters (eVar 4) aNil) aNil)))))))
  (sSeq (sFor (e3 fSlL (eVar 1) oNone (oSome (e1 fNeg (eC (.int 1))))) (gTp 3 (gsCons (gNm 4) (gsCons (gNm 5) (gsCons (gNm 6) gsNil)))) (sIf (tOrE (tOf (e2 fNotB (eMt 1 AH.F_Look_over (eVar 4) aNil) (eC (.bl true)))) (tOrE (tOf (e2 fNe (eMt 1 AH.F_Look_letters (eVar 4) aNil) (eV (fLst aNil)))) (tNotE (tOf (eAll 0 0 (("_law_is_last" : Str) ++ ".<locals>." ++ "<lambda>") [(vMt 1 F_Look_press (vL (eVar 4)) (aCons (eC (.str [97])) aNil))] (eTup (aCons (eC (.str [78, 111, 76, 111, 111, 107])) (aCons (eC (.int 0)) aNil))) toldV))))) (sRet (eC (.bl false))) sNext))
  (sSeq (sAsg (e2 fIx (eVar 1) (e1 fNeg (eC (.int 1)))) (gTp 3 (gsCons (gNm 7) (gsCons (gNm 5) (gsCons (gNm 6) gsNil)))))
  (sSeq (sAsg (eV (fLc (fMt 3 AH.F_Hall_typed (eVar 0) (aCons (eC (.int 0)) aNil)) [9, 10, 11] (pTp 3 (psCons (pNm 9) (psCons (pNm 10) (psCons (pNm 11) psNil)))) (tOf (e2 fEq (eVar 10) (eVar 5))) (eVar 11))) (gNm 8))
  (sRet (eAndE (e2 fEq (eM1 fJoin (eC (.str [])) (eVar 8)) (eVar 6)) (eAndE (eNotE (eMt 1 AH.F_Look_over (eVar 7) aNil)) (eAndE (e2 fEq (eMt 1 AH.F_Look_waiting (eVar 7) aNil) (eC (.int 0))) (e2 fEq (eMt 3 AH.F_Hall_looks (eVar 0) aNil) (eV (fLst (aCons (eTup (aCons (eVar 2) (aCons (eVar 5) (aCons (eC (.int 0)) aNil)))) aNil))))))))))))
def F__law_is_last : Fn := runB 3 12 b__law_is_last
def b_law : EvS := (sSeq (sAsg (eN (callE AH.F_begun) (aCons (eVar 0) aNil)) (gNm 1))
  (sSeq (sPar 2 3 (eMk 3 AH.F_Hall___init__ (aCons (eC (.int 1)) aNil)) (eN (callE AH.F_take) (aCons (eVar 1) (aCons (eC (.int 4)) aNil))))
  (sSeq (sPar3 4 5 6 (eOwn (fLst aNil)) (eV (fLst aNil)) (eV (fLst aNil)))
  (sSeq (sAsg (eC (.int 0)) (gNm 7))
  (sSeq (sFor (iR1 (aCons (e2 fAdd (eC (.int 1)) (eN (callE AH.F_take) (aCons (eVar 1) (aCons (eC (.int 6)) aNil)))) aNil)) (gNm 8) (sSeq (sAsg (e2 fAdd (e2 fAdd (eVar 7) (eC (.int 1))) (eN (callE AH.F_take) (aCons (eVar 1) (aCons (e2 fIx (eV (fLst (aCons (eC (.int 1)) (aCons (eC (.int 9)) (aCons (eC (.int 16000)) aNil))))) (eN (callE AH.F_take) (aCons (eVar 1) (aCons (eC (.int 3)) aNil)))) aNil)))) (gNm 7))
  (sSeq (sAsg (e3 fSl (eC (.str [97, 98, 99, 100, 101, 102, 103, 104, 105, 106])) oNone (oSome (eN (callE AH.F_take) (aCons (eVar 1) (aCons (eC (.int 11)) aNil))))) (gNm 9))
  (sSeq (sDo (eBM fAppend (eVar 4) (aCons (eTup (aCons (eMk 1 AH.F_Look___init__ (aCons (eVar 3) (aCons (eVar 7) (aCons (eC (.int 0)) (aCons (eC (.int 20)) (aCons (eC (.int 5)) aNil)))))) (aCons (eVar 7) (aCons (eVar 9) aNil)))) aNil)))
  (sSeq (sDo (eMt 1 F_Look_press_o (e2 fIx (e2 fIx (eVar 4) (e1 fNeg (eC (.int 1)))) (eC (.int 0))) (aCons (eVar 9) aNil)))
  (sSeq (sAsg (eV (fLst aNil)) (gNm 10))
  (sSeq (sFor (iR1 (aCons (eN (callE AH.F_take) (aCons (eVar 1) (aCons (eC (.int 4)) aNil))) aNil)) (gNm 11) (sSeq (sAsg (eV (e2 fCat (eVar 10) (eMt 1 AH.F_Look_letters (e2 fIx (e2 fIx (eVar 4) (e1 fNeg (eC (.int 1)))) (eC (.int 0))) aNil))) (gNm 10))
  (sIf (tOf (e2 fEq (eN (callE AH.F_take) (aCons (eVar 1) (aCons (eC (.int 2)) aNil))) (eC (.int 0)))) (sDo (eN (callE F__law_all_hear) (aCons (eVar 2) (aCons (eVar 4) (aCons (eV (e2 fCat (eVar 10) (eVar 6))) aNil))))) sNext)))
  (sSeq (sAsg (eV (e2 fCat (eVar 6) (eVar 10))) (gNm 6))
  (sSeq (sAsg (eV (fLc (fMt 3 AH.F_Hall_typed (eVar 2) (aCons (eC (.int 0)) aNil)) [13, 14, 15] (pTp 3 (psCons (pNm 13) (psCons (pNm 14) (psCons (pNm 15) psNil)))) tYesE (eTup (aCons (eVar 14) (aCons (eVar 15) aNil))))) (gNm 12))
  (sSeq (sAsg (eV (fLc (iL (eVar 12)) [14, 15] (pTp 2 (psCons (pNm 14) (psCons (pNm 15) psNil))) (tOf (e2 fEq (eVar 14) (eVar 7))) (eVar 15))) (gNm 16))
  (sSeq (sIf (tOrE (tOf (e2 fNe (eV (e3 fSlL (eVar 12) oNone (oSome (eN fLen (aCons (eVar 5) aNil))))) (eVar 5))) (tOf (e2 fNe (eV (fLc (e3 fSlL (eVar 12) (oSome (eN fLen (aCons (eVar 5) aNil))) oNone) [14, 15] (pTp 2 (psCons (pNm 14) (psCons (pNm 15) psNil))) (tOf (e2 fNe (eVar 14) (eVar 7))) (eVar 14))) (eV (fLst aNil))))) (sRet (eC (.bl false))) sNext)
  (sSeq (sIf (tOf (e2 fNe (eM1 fJoin (eC (.str [])) (eVar 16)) (e3 fSl (eVar 9) oNone (oSome (eN fLen (aCons (eVar 16) aNil)))))) (sRet (eC (.bl false))) sNext)
  (sAsg (eVar 12) (gNm 5))))))))))))))
  (sRet (eN (callE F__law_is_last) (aCons (eVar 2) (aCons (eVar 4) (aCons (eVar 3) aNil))))))))))
def F_law : Fn := runB 1 17 b_law
def tl : List (Nat × Str) := [(0, (("_law_is_last" : Str) ++ ".<locals>." ++ "<lambda>"))]
end
end K12
set_option maxRecDepth 100000
set_option maxHeartbeats 4000000
namespace K12
open PySem PySem.Spec PyProof.Rows L2 AH TL
abbrev FnP (K : PySem.W.Frag) (x q : Str) (st : Stmt) (f : Addr) (fd : FuncData) : Prop := FunD K x q (defArgs st) (defBody st) (defScope st) [] [] f fd
abbrev N_is_number : List Str := ["part", "low", "high"]
theorem sc_is_number : FnScope N_is_number ["part", "low", "high"] (defScope s_is_number) := ⟨rfl, rfl, rfl, by decide +kernel, rfl, by decide +kernel, by decide +kernel⟩
abbrev N_need_size : List Str := ["wide", "high"]
theorem sc_need_size : FnScope N_need_size ["wide", "high"] (defScope s_need_size) := ⟨rfl, rfl, rfl, by decide +kernel, rfl, by decide +kernel, by decide +kernel⟩
abbrev N_need_signs : List Str := ["signs", "place", "sign"]
theorem sc_need_signs : FnScope N_need_signs ["signs"] (defScope s_need_signs) := ⟨rfl, rfl, rfl, by decide +kernel, rfl, by decide +kernel, by decide +kernel⟩
abbrev N_changed : List Str := ["rows", "line", "change", "word", "text"]
theorem sc_changed : FnScope N_changed ["rows", "line", "change"] (defScope s_changed) := ⟨rfl, rfl, rfl, by decide +kernel, rfl, by decide +kernel, by decide +kernel⟩
abbrev N_count_of : List Str := ["line", "words", "sign"]
theorem sc_count_of : FnScope N_count_of ["line"] (defScope s_count_of) := ⟨rfl, rfl, rfl, by decide +kernel, rfl, by decide +kernel, by decide +kernel⟩
abbrev N_Pane___init__ : List Str := ["self"]
theorem sc_Pane___init__ : FnScope N_Pane___init__ ["self"] (defScope s_Pane___init__) := ⟨rfl, rfl, rfl, by decide +kernel, rfl, by decide +kernel, by decide +kernel⟩
abbrev N_Pane_change : List Str := ["self", "word", "text"]
theorem sc_Pane_change : FnScope N_Pane_change ["self", "word", "text"] (defScope s_Pane_change) := ⟨rfl, rfl, rfl, by decide +kernel, rfl, by decide +kernel, by decide +kernel⟩
abbrev N_Pane_do : List Str := ["self", "line"]
theorem sc_Pane_do : FnScope N_Pane_do ["self", "line"] (defScope s_Pane_do) := ⟨rfl, rfl, rfl, by decide +kernel, rfl, by decide +kernel, by decide +kernel⟩
abbrev N_Pane_press : List Str := ["self", "look", "session", "sign"]
theorem sc_Pane_press : FnScope N_Pane_press ["self", "look", "session", "sign"] (defScope s_Pane_press) := ⟨rfl, rfl, rfl, by decide +kernel, rfl, by decide +kernel, by decide +kernel⟩
abbrev N_Pane_rows : List Str := ["self"]
theorem sc_Pane_rows : FnScope N_Pane_rows ["self"] (defScope s_Pane_rows) := ⟨rfl, rfl, rfl, by decide +kernel, rfl, by decide +kernel, by decide +kernel⟩
abbrev N_Pane_line : List Str := ["self"]
theorem sc_Pane_line : FnScope N_Pane_line ["self"] (defScope s_Pane_line) := ⟨rfl, rfl, rfl, by decide +kernel, rfl, by decide +kernel, by decide +kernel⟩
abbrev N_Pane_changes : List Str := ["self"]
theorem sc_Pane_changes : FnScope N_Pane_changes ["self"] (defScope s_Pane_changes) := ⟨rfl, rfl, rfl, by decide +kernel, rfl, by decide +kernel, by decide +kernel⟩
abbrev N_Pane_since : List Str := ["self", "number"]
theorem sc_Pane_since : FnScope N_Pane_since ["self", "number"] (defScope s_Pane_since) := ⟨rfl, rfl, rfl, by decide +kernel, rfl, by decide +kernel, by decide +kernel⟩
abbrev N_Pane_typed : List Str := ["self"]
theorem sc_Pane_typed : FnScope N_Pane_typed ["self"] (defScope s_Pane_typed) := ⟨rfl, rfl, rfl, by decide +kernel, rfl, by decide +kernel, by decide +kernel⟩
abbrev N_sum_of : List Str := ["body", "found", "sign"]
theorem sc_sum_of : FnScope N_sum_of ["body"] (defScope s_sum_of) := ⟨rfl, rfl, rfl, by decide +kernel, rfl, by decide +kernel, by decide +kernel⟩
abbrev N_packed : List Str := ["fields", "sign", "body"]
theorem sc_packed : FnScope N_packed ["fields"] (defScope s_packed) := ⟨rfl, rfl, rfl, by decide +kernel, rfl, by decide +kernel, by decide +kernel⟩
abbrev N_number_of : List Str := ["word", "sign"]
theorem sc_number_of : FnScope N_number_of ["word"] (defScope s_number_of) := ⟨rfl, rfl, rfl, by decide +kernel, rfl, by decide +kernel, by decide +kernel⟩
abbrev N_unpacked : List Str := ["text", "parts", "body", "sign"]
theorem sc_unpacked : FnScope N_unpacked ["text"] (defScope s_unpacked) := ⟨rfl, rfl, rfl, by decide +kernel, rfl, by decide +kernel, by decide +kernel⟩
abbrev N_Look___init__ : List Str := ["self", "name", "session", "pane", "wide", "high", "good"]
theorem sc_Look___init__ : FnScope N_Look___init__ ["self", "name", "session", "pane", "wide", "high"] (defScope s_Look___init__) := ⟨rfl, rfl, rfl, by decide +kernel, rfl, by decide +kernel, by decide +kernel⟩
abbrev N_Look_press : List Str := ["self", "signs"]
theorem sc_Look_press : FnScope N_Look_press ["self", "signs"] (defScope s_Look_press) := ⟨rfl, rfl, rfl, by decide +kernel, rfl, by decide +kernel, by decide +kernel⟩
abbrev N_Look_press_o : List Str := ["self", "signs"]
theorem sc_Look_press_o : FnScope N_Look_press_o ["self", "signs"] (defScope s_Look_press_o) := ⟨rfl, rfl, rfl, by decide +kernel, rfl, by decide +kernel, by decide +kernel⟩
abbrev N_Look_letters : List Str := ["self", "found", "part", "known"]
theorem sc_Look_letters : FnScope N_Look_letters ["self"] (defScope s_Look_letters) := ⟨rfl, rfl, rfl, by decide +kernel, rfl, by decide +kernel, by decide +kernel⟩
abbrev N_Look_take : List Str := ["self", "number", "fields", "k"]
theorem sc_Look_take : FnScope N_Look_take ["self", "number", "fields"] (defScope s_Look_take) := ⟨rfl, rfl, rfl, by decide +kernel, rfl, by decide +kernel, by decide +kernel⟩
abbrev N_Look_hear : List Str := ["self", "text", "fields", "session", "done"]
theorem sc_Look_hear : FnScope N_Look_hear ["self", "text"] (defScope s_Look_hear) := ⟨rfl, rfl, rfl, by decide +kernel, rfl, by decide +kernel, by decide +kernel⟩
abbrev N_Look_waiting : List Str := ["self"]
theorem sc_Look_waiting : FnScope N_Look_waiting ["self"] (defScope s_Look_waiting) := ⟨rfl, rfl, rfl, by decide +kernel, rfl, by decide +kernel, by decide +kernel⟩
abbrev N_Look_over : List Str := ["self"]
theorem sc_Look_over : FnScope N_Look_over ["self"] (defScope s_Look_over) := ⟨rfl, rfl, rfl, by decide +kernel, rfl, by decide +kernel, by decide +kernel⟩
abbrev N_Seat___init__ : List Str := ["self", "session", "pane"]
theorem sc_Seat___init__ : FnScope N_Seat___init__ ["self", "session", "pane"] (defScope s_Seat___init__) := ⟨rfl, rfl, rfl, by decide +kernel, rfl, by decide +kernel, by decide +kernel⟩
abbrev N_Hall___init__ : List Str := ["self", "many", "pane"]
theorem sc_Hall___init__ : FnScope N_Hall___init__ ["self", "many"] (defScope s_Hall___init__) := ⟨rfl, rfl, rfl, by decide +kernel, rfl, by decide +kernel, by decide +kernel⟩
abbrev N_Hall_take : List Str := ["self", "name", "seat", "fields", "known", "number", "sign"]
theorem sc_Hall_take : FnScope N_Hall_take ["self", "name", "seat", "fields"] (defScope s_Hall_take) := ⟨rfl, rfl, rfl, by decide +kernel, rfl, by decide +kernel, by decide +kernel⟩
abbrev N_Hall_hear : List Str := ["self", "text", "fields", "name", "session", "pane", "field", "seat"]
theorem sc_Hall_hear : FnScope N_Hall_hear ["self", "text"] (defScope s_Hall_hear) := ⟨rfl, rfl, rfl, by decide +kernel, rfl, by decide +kernel, by decide +kernel⟩
abbrev N_Hall_told : List Str := ["self", "name", "seat", "pane", "head", "some", "fields", "word", "text"]
theorem sc_Hall_told : FnScope N_Hall_told ["self", "name", "seat"] (defScope s_Hall_told) := ⟨rfl, rfl, rfl, by decide +kernel, rfl, by decide +kernel, by decide +kernel⟩
abbrev N_Hall_letters : List Str := ["self", "found", "name", "seat"]
theorem sc_Hall_letters : FnScope N_Hall_letters ["self"] (defScope s_Hall_letters) := ⟨rfl, rfl, rfl, by decide +kernel, rfl, by decide +kernel, by decide +kernel⟩
abbrev N_Hall_typed : List Str := ["self", "pane"]
theorem sc_Hall_typed : FnScope N_Hall_typed ["self", "pane"] (defScope s_Hall_typed) := ⟨rfl, rfl, rfl, by decide +kernel, rfl, by decide +kernel, by decide +kernel⟩
abbrev N_Hall_looks : List Str := ["self", "some", "name", "one"]
theorem sc_Hall_looks : FnScope N_Hall_looks ["self"] (defScope s_Hall_looks) := ⟨rfl, rfl, rfl, by decide +kernel, rfl, by decide +kernel, by decide +kernel⟩
abbrev N__law_begun : List Str := ["_law_script", "_law_stirred", "_law_cell"]
theorem sc__law_begun : FnScope N__law_begun ["_law_script"] (defScope s__law_begun) := ⟨rfl, rfl, rfl, by decide +kernel, rfl, by decide +kernel, by decide +kernel⟩
abbrev N__law_take : List Str := ["_law_box", "_law_many", "_law_number"]
theorem sc__law_take : FnScope N__law_take ["_law_box", "_law_many"] (defScope s__law_take) := ⟨rfl, rfl, rfl, by decide +kernel, rfl, by decide +kernel, by decide +kernel⟩
abbrev N__law_alike : List Str := ["_law_found", "_law_due", "_law_k"]
theorem sc__law_alike : FnScope N__law_alike ["_law_found", "_law_due"] (defScope s__law_alike) := ⟨rfl, rfl, rfl, by decide +kernel, rfl, by decide +kernel, by decide +kernel⟩
abbrev N__law_told : List Str := ["_law_work", "e", "_law_kinds", "_law_word"]
theorem sc__law_told : FnScope N__law_told ["_law_work"] (defScope s__law_told) := ⟨rfl, rfl, rfl, by decide +kernel, rfl, by decide +kernel, by decide +kernel⟩
abbrev N__law_all : List Str := ["_law_works", "_law_due", "_law_work"]
theorem sc__law_all : FnScope N__law_all ["_law_works", "_law_due"] (defScope s__law_all) := ⟨rfl, rfl, rfl, by decide +kernel, rfl, by decide +kernel, by decide +kernel⟩
abbrev N__law_all_hear : List Str := ["_law_hall", "_law_looks", "_law_texts", "_law_text", "_law_told_here", "_law_look", "_law_session", "_law_signs"]
theorem sc__law_all_hear : FnScope N__law_all_hear ["_law_hall", "_law_looks", "_law_texts"] (defScope s__law_all_hear) := ⟨rfl, rfl, rfl, by decide +kernel, rfl, by decide +kernel, by decide +kernel⟩
abbrev N__law_is_last : List Str := ["_law_hall", "_law_looks", "_law_name", "_law_turn", "_law_look", "_law_session", "_law_signs", "_law_last", "_law_mine", "_law_who", "_law_one", "_law_sign"]
theorem sc__law_is_last : FnScope N__law_is_last ["_law_hall", "_law_looks", "_law_name"] (defScope s__law_is_last) := ⟨rfl, rfl, rfl, by decide +kernel, rfl, by decide +kernel, by decide +kernel⟩
abbrev N_law : List Str := ["_law_script", "_law_box", "_law_hall", "_law_name", "_law_looks", "_law_done", "_law_texts", "_law_session", "_law_turn", "_law_signs", "_law_late", "_law_again", "_law_mine", "_law_who", "_law_one", "_law_sign", "_law_here"]
theorem sc_law : FnScope N_law ["_law_script"] (defScope s_law) := ⟨rfl, rfl, rfl, by decide +kernel, rfl, by decide +kernel, by decide +kernel⟩
theorem nd_Pane : (fl 0).Nodup := by decide +kernel
theorem lz_Pane : (fl 0).length < 1000 := by decide +kernel
theorem nd_Look : (fl 1).Nodup := by decide +kernel
theorem lz_Look : (fl 1).length < 1000 := by decide +kernel
theorem nd_Seat : (fl 2).Nodup := by decide +kernel
theorem lz_Seat : (fl 2).length < 1000 := by decide +kernel
theorem nd_Hall : (fl 3).Nodup := by decide +kernel
theorem lz_Hall : (fl 3).length < 1000 := by decide +kernel
theorem nm_Pane_change : ("change" : Str) ∉ fl 0 := by decide +kernel
theorem nm_Pane_do : ("do" : Str) ∉ fl 0 := by decide +kernel
theorem nm_Pane_press : ("press" : Str) ∉ fl 0 := by decide +kernel
theorem nm_Pane_rows : ("rows" : Str) ∉ fl 0 := by decide +kernel
theorem nm_Pane_line : ("line" : Str) ∉ fl 0 := by decide +kernel
theorem nm_Pane_changes : ("changes" : Str) ∉ fl 0 := by decide +kernel
theorem nm_Pane_since : ("since" : Str) ∉ fl 0 := by decide +kernel
theorem nm_Pane_typed : ("typed" : Str) ∉ fl 0 := by decide +kernel
theorem nm_Look_press : ("press" : Str) ∉ fl 1 := by decide +kernel
theorem nm_Look_press_o : ("press" : Str) ∉ fl 1 := by decide +kernel
theorem nm_Look_letters : ("letters" : Str) ∉ fl 1 := by decide +kernel
theorem nm_Look_take : ("take" : Str) ∉ fl 1 := by decide +kernel
theorem nm_Look_hear : ("hear" : Str) ∉ fl 1 := by decide +kernel
theorem nm_Look_waiting : ("waiting" : Str) ∉ fl 1 := by decide +kernel
theorem nm_Look_over : ("over" : Str) ∉ fl 1 := by decide +kernel
theorem nm_Hall_take : ("take" : Str) ∉ fl 3 := by decide +kernel
theorem nm_Hall_hear : ("hear" : Str) ∉ fl 3 := by decide +kernel
theorem nm_Hall_told : ("told" : Str) ∉ fl 3 := by decide +kernel
theorem nm_Hall_letters : ("letters" : Str) ∉ fl 3 := by decide +kernel
theorem nm_Hall_typed : ("typed" : Str) ∉ fl 3 := by decide +kernel
theorem nm_Hall_looks : ("looks" : Str) ∉ fl 3 := by decide +kernel
theorem told_run {c : Nat} {fs : List (Str × D)} {d0 : D} {a : Addr} {d : Option Addr} {S : Sto} (h : toldV c fs = some d0) (hd : fs ≠ [] → d.isSome = true) : ∃ ρ', b__law_told c a d (rhoE 4 1 (.exn a d (fs.map (·.1)) (fs.map (·.2)))) S = some (.rt d0, ρ', S) := by
  have hd2 : fs = [] ∨ ∃ dd, d = some dd := by
    cases fs with
    | nil => exact .inl rfl
    | cons x y => exact .inr (Option.isSome_iff_exists.mp (hd (fun z => nomatch z)))
  rcases toldV_is h with ⟨rfl, rfl, rfl⟩ | ⟨rfl, rfl, rfl⟩ | ⟨rfl, rfl, rfl⟩ | ⟨rfl, x, rfl, rfl⟩ | ⟨rfl, rfl, rfl⟩ | ⟨rfl, x, rfl, rfl⟩ | ⟨rfl, rfl, rfl⟩
  all_goals
    rcases hd2 with hd2 | ⟨dd, rfl⟩
    all_goals first
      | (cases hd2; done)
      | simp [b__law_told, rhoE, sSeq, sAsg, sIf, sRet, sNext, eV, fLst, aCons, aNil, eIsX, eXf, eVar, gNm, e2, fCat, lstOf, tOf, tOrE, tNotE, fNe, fEq, eqD, eBMV, fCntB, boolsOf, fIdxB, eC, fIx, eTup, eIf, sizeLine_eq, toPyS, List.findIdx?_cons, seqOf, atI, ixN]
structure Tx (w : World) (K : PySem.W.Frag) (mg : Str → Option Value) where
  k_BACK : ∃ t, mg "BACK" = some (.str ("<" : Str) t)
  k_BETWEEN : ∃ t, mg "BETWEEN" = some (.str ("|" : Str) t)
  k_BLANK : ∃ t, mg "BLANK" = some (.str (" " : Str) t)
  k_CLEAR : ∃ t, mg "CLEAR" = some (.str ("clear" : Str) t)
  k_CLOSE : ∃ t, mg "CLOSE" = some (.str ("!" : Str) t)
  k_ENDS : ∃ t, mg "ENDS" = some (.str (";" : Str) t)
  k_FIGURES : ∃ t, mg "FIGURES" = some (.str ("0123456789" : Str) t)
  k_LEAST_WIDE : ∃ t, mg "LEAST_WIDE" = some (.int 2 t)
  k_LETTERS : ∃ t, mg "LETTERS" = some (.str ("abcdefghijklmnopqrstuvwxyz" : Str) t)
  k_LINE : ∃ t, mg "LINE" = some (.str ("line" : Str) t)
  k_MOST_FIGURES : ∃ t, mg "MOST_FIGURES" = some (.int 6 t)
  k_MOST_HIGH : ∃ t, mg "MOST_HIGH" = some (.int 20 t)
  k_MOST_LINE : ∃ t, mg "MOST_LINE" = some (.int 30 t)
  k_MOST_NAME : ∃ t, mg "MOST_NAME" = some (.int 3 t)
  k_MOST_PANES : ∃ t, mg "MOST_PANES" = some (.int 3 t)
  k_MOST_PAST : ∃ t, mg "MOST_PAST" = some (.int 30 t)
  k_MOST_ROWS : ∃ t, mg "MOST_ROWS" = some (.int 40 t)
  k_MOST_SESSION : ∃ t, mg "MOST_SESSION" = some (.int 100000 t)
  k_MOST_TOLD : ∃ t, mg "MOST_TOLD" = some (.int 8 t)
  k_MOST_TYPED : ∃ t, mg "MOST_TYPED" = some (.int 100 t)
  k_MOST_WIDE : ∃ t, mg "MOST_WIDE" = some (.int 40 t)
  k_NONE : ∃ t, mg "NONE" = some (.str ("?" : Str) t)
  k_POINT : ∃ t, mg "POINT" = some (.str ("." : Str) t)
  k_PROMPT : ∃ t, mg "PROMPT" = some (.str ("> " : Str) t)
  k_RING : ∃ t, mg "RING" = some (.int 9973 t)
  k_ROW : ∃ t, mg "ROW" = some (.str ("row" : Str) t)
  k_SIGNS : ∃ t, mg "SIGNS" = some (.str ("abcdefghijklmnopqrstuvwxyz0123456789 >?<;" : Str) t)
  n_ValueError : mg "ValueError" = none
  n_bool : mg "bool" = none
  n_enumerate : mg "enumerate" = none
  n_int : mg "int" = none
  n_isinstance : mg "isinstance" = none
  n_len : mg "len" = none
  n_list : mg "list" = none
  n_range : mg "range" = none
  n_sorted : mg "sorted" = none
  n_str : mg "str" = none
  n_tuple : mg "tuple" = none
  c_Pane : Addr
  gc_Pane : mg "Pane" = some (.ref c_Pane)
  cl_Pane : Cls K c_Pane
  na_Pane_kept : NoAttr K c_Pane "kept"
  na_Pane_text : NoAttr K c_Pane "text"
  na_Pane_work : NoAttr K c_Pane "work"
  na_Pane_many : NoAttr K c_Pane "many"
  na_Pane_past : NoAttr K c_Pane "past"
  na_Pane_notes : NoAttr K c_Pane "notes"
  a_Pane___init__ : Addr
  mk_Pane : Mk K c_Pane a_Pane___init__
  c_Look : Addr
  gc_Look : mg "Look" = some (.ref c_Look)
  cl_Look : Cls K c_Look
  na_Look_head : NoAttr K c_Look "head"
  na_Look_size : NoAttr K c_Look "size"
  na_Look_kept : NoAttr K c_Look "kept"
  na_Look_text : NoAttr K c_Look "text"
  na_Look_version : NoAttr K c_Look "version"
  na_Look_first : NoAttr K c_Look "first"
  na_Look_signs : NoAttr K c_Look "signs"
  na_Look_gone : NoAttr K c_Look "gone"
  na_Look_past : NoAttr K c_Look "past"
  a_Look___init__ : Addr
  mk_Look : Mk K c_Look a_Look___init__
  c_Seat : Addr
  gc_Seat : mg "Seat" = some (.ref c_Seat)
  cl_Seat : Cls K c_Seat
  na_Seat_session : NoAttr K c_Seat "session"
  na_Seat_pane : NoAttr K c_Seat "pane"
  na_Seat_done : NoAttr K c_Seat "done"
  na_Seat_knows : NoAttr K c_Seat "knows"
  na_Seat_here : NoAttr K c_Seat "here"
  a_Seat___init__ : Addr
  mk_Seat : Mk K c_Seat a_Seat___init__
  c_Hall : Addr
  gc_Hall : mg "Hall" = some (.ref c_Hall)
  cl_Hall : Cls K c_Hall
  na_Hall_places : NoAttr K c_Hall "places"
  na_Hall_seats : NoAttr K c_Hall "seats"
  a_Hall___init__ : Addr
  mk_Hall : Mk K c_Hall a_Hall___init__
  E : ToldK K
  hin : HinK K
  gx_HallError : mg "HallError" = some (.ref (He.ga K "HallError"))
  gx_BadCount : mg "BadCount" = some (.ref (He.ga K "BadCount"))
  gx_BadFields : mg "BadFields" = some (.ref (He.ga K "BadFields"))
  gx_BadLook : mg "BadLook" = some (.ref (He.ga K "BadLook"))
  gx_BadSign : mg "BadSign" = some (.ref (He.ga K "BadSign"))
  gx_BadSize : mg "BadSize" = some (.ref (He.ga K "BadSize"))
  gx_BadText : mg "BadText" = some (.ref (He.ga K "BadText"))
  gx_NoLook : mg "NoLook" = some (.ref (He.ga K "NoLook"))
  q_NoLook : PySem.W.excIn K (He.ga K "NoLook") He.veBase "ValueError.__new__" = true ∧ PySem.W.keepIn K (.ref (He.ga K "NoLook")) = true ∧ PySem.W.subIn K (.ref (He.ga K "NoLook")) (.type "BaseException") = some true ∧ PySem.W.typeIn K (.ref (He.ga K "NoLook")) = some (.type "type")
  o_BadSign : OexK K "BadSign" "place"
  o_BadText : OexK K "BadText" "row"
  d_BadText___init__ : FuncData
  F_BadText___init__ : FnP K "__init__" "BadText.__init__" s_BadText___init__ (He.ma K (He.ga K "BadText") "__init__") d_BadText___init__
  d_BadSign___init__ : FuncData
  F_BadSign___init__ : FnP K "__init__" "BadSign.__init__" s_BadSign___init__ (He.ma K (He.ga K "BadSign") "__init__") d_BadSign___init__
  a_is_number : Addr
  d_is_number : FuncData
  F_is_number : FnP K "is_number" "is_number" s_is_number a_is_number d_is_number
  g_is_number : mg "is_number" = some (.ref a_is_number)
  a_need_size : Addr
  d_need_size : FuncData
  F_need_size : FnP K "need_size" "need_size" s_need_size a_need_size d_need_size
  g_need_size : mg "need_size" = some (.ref a_need_size)
  a_need_signs : Addr
  d_need_signs : FuncData
  F_need_signs : FnP K "need_signs" "need_signs" s_need_signs a_need_signs d_need_signs
  g_need_signs : mg "need_signs" = some (.ref a_need_signs)
  a_changed : Addr
  d_changed : FuncData
  F_changed : FnP K "changed" "changed" s_changed a_changed d_changed
  g_changed : mg "changed" = some (.ref a_changed)
  a_count_of : Addr
  d_count_of : FuncData
  F_count_of : FnP K "count_of" "count_of" s_count_of a_count_of d_count_of
  g_count_of : mg "count_of" = some (.ref a_count_of)
  d_Pane___init__ : FuncData
  F_Pane___init__ : FnP K "__init__" "Pane.__init__" s_Pane___init__ a_Pane___init__ d_Pane___init__
  a_Pane_change : Addr
  d_Pane_change : FuncData
  F_Pane_change : FnP K "change" "Pane.change" s_Pane_change a_Pane_change d_Pane_change
  me_Pane_change : Meth K c_Pane "change" a_Pane_change
  a_Pane_do : Addr
  d_Pane_do : FuncData
  F_Pane_do : FnP K "do" "Pane.do" s_Pane_do a_Pane_do d_Pane_do
  me_Pane_do : Meth K c_Pane "do" a_Pane_do
  a_Pane_press : Addr
  d_Pane_press : FuncData
  F_Pane_press : FnP K "press" "Pane.press" s_Pane_press a_Pane_press d_Pane_press
  me_Pane_press : Meth K c_Pane "press" a_Pane_press
  a_Pane_rows : Addr
  d_Pane_rows : FuncData
  F_Pane_rows : FnP K "rows" "Pane.rows" s_Pane_rows a_Pane_rows d_Pane_rows
  me_Pane_rows : Meth K c_Pane "rows" a_Pane_rows
  a_Pane_line : Addr
  d_Pane_line : FuncData
  F_Pane_line : FnP K "line" "Pane.line" s_Pane_line a_Pane_line d_Pane_line
  me_Pane_line : Meth K c_Pane "line" a_Pane_line
  a_Pane_changes : Addr
  d_Pane_changes : FuncData
  F_Pane_changes : FnP K "changes" "Pane.changes" s_Pane_changes a_Pane_changes d_Pane_changes
  me_Pane_changes : Meth K c_Pane "changes" a_Pane_changes
  a_Pane_since : Addr
  d_Pane_since : FuncData
  F_Pane_since : FnP K "since" "Pane.since" s_Pane_since a_Pane_since d_Pane_since
  me_Pane_since : Meth K c_Pane "since" a_Pane_since
  a_Pane_typed : Addr
  d_Pane_typed : FuncData
  F_Pane_typed : FnP K "typed" "Pane.typed" s_Pane_typed a_Pane_typed d_Pane_typed
  me_Pane_typed : Meth K c_Pane "typed" a_Pane_typed
  a_sum_of : Addr
  d_sum_of : FuncData
  F_sum_of : FnP K "sum_of" "sum_of" s_sum_of a_sum_of d_sum_of
  g_sum_of : mg "sum_of" = some (.ref a_sum_of)
  a_packed : Addr
  d_packed : FuncData
  F_packed : FnP K "packed" "packed" s_packed a_packed d_packed
  g_packed : mg "packed" = some (.ref a_packed)
  a_number_of : Addr
  d_number_of : FuncData
  F_number_of : FnP K "number_of" "number_of" s_number_of a_number_of d_number_of
  g_number_of : mg "number_of" = some (.ref a_number_of)
  a_unpacked : Addr
  d_unpacked : FuncData
  F_unpacked : FnP K "unpacked" "unpacked" s_unpacked a_unpacked d_unpacked
  g_unpacked : mg "unpacked" = some (.ref a_unpacked)
  d_Look___init__ : FuncData
  F_Look___init__ : FnP K "__init__" "Look.__init__" s_Look___init__ a_Look___init__ d_Look___init__
  a_Look_press : Addr
  d_Look_press : FuncData
  F_Look_press : FnP K "press" "Look.press" s_Look_press a_Look_press d_Look_press
  me_Look_press : Meth K c_Look "press" a_Look_press
  a_Look_press_o : Addr
  d_Look_press_o : FuncData
  F_Look_press_o : FnP K "press" "Look.press" s_Look_press_o a_Look_press_o d_Look_press_o
  me_Look_press_o : Meth K c_Look "press" a_Look_press_o
  a_Look_letters : Addr
  d_Look_letters : FuncData
  F_Look_letters : FnP K "letters" "Look.letters" s_Look_letters a_Look_letters d_Look_letters
  me_Look_letters : Meth K c_Look "letters" a_Look_letters
  a_Look_take : Addr
  d_Look_take : FuncData
  F_Look_take : FnP K "take" "Look.take" s_Look_take a_Look_take d_Look_take
  me_Look_take : Meth K c_Look "take" a_Look_take
  a_Look_hear : Addr
  d_Look_hear : FuncData
  F_Look_hear : FnP K "hear" "Look.hear" s_Look_hear a_Look_hear d_Look_hear
  me_Look_hear : Meth K c_Look "hear" a_Look_hear
  a_Look_waiting : Addr
  d_Look_waiting : FuncData
  F_Look_waiting : FnP K "waiting" "Look.waiting" s_Look_waiting a_Look_waiting d_Look_waiting
  me_Look_waiting : Meth K c_Look "waiting" a_Look_waiting
  a_Look_over : Addr
  d_Look_over : FuncData
  F_Look_over : FnP K "over" "Look.over" s_Look_over a_Look_over d_Look_over
  me_Look_over : Meth K c_Look "over" a_Look_over
  d_Seat___init__ : FuncData
  F_Seat___init__ : FnP K "__init__" "Seat.__init__" s_Seat___init__ a_Seat___init__ d_Seat___init__
  d_Hall___init__ : FuncData
  F_Hall___init__ : FnP K "__init__" "Hall.__init__" s_Hall___init__ a_Hall___init__ d_Hall___init__
  a_Hall_take : Addr
  d_Hall_take : FuncData
  F_Hall_take : FnP K "take" "Hall.take" s_Hall_take a_Hall_take d_Hall_take
  me_Hall_take : Meth K c_Hall "take" a_Hall_take
  a_Hall_hear : Addr
  d_Hall_hear : FuncData
  F_Hall_hear : FnP K "hear" "Hall.hear" s_Hall_hear a_Hall_hear d_Hall_hear
  me_Hall_hear : Meth K c_Hall "hear" a_Hall_hear
  a_Hall_told : Addr
  d_Hall_told : FuncData
  F_Hall_told : FnP K "told" "Hall.told" s_Hall_told a_Hall_told d_Hall_told
  me_Hall_told : Meth K c_Hall "told" a_Hall_told
  a_Hall_letters : Addr
  d_Hall_letters : FuncData
  F_Hall_letters : FnP K "letters" "Hall.letters" s_Hall_letters a_Hall_letters d_Hall_letters
  me_Hall_letters : Meth K c_Hall "letters" a_Hall_letters
  a_Hall_typed : Addr
  d_Hall_typed : FuncData
  F_Hall_typed : FnP K "typed" "Hall.typed" s_Hall_typed a_Hall_typed d_Hall_typed
  me_Hall_typed : Meth K c_Hall "typed" a_Hall_typed
  a_Hall_looks : Addr
  d_Hall_looks : FuncData
  F_Hall_looks : FnP K "looks" "Hall.looks" s_Hall_looks a_Hall_looks d_Hall_looks
  me_Hall_looks : Meth K c_Hall "looks" a_Hall_looks
  a__law_begun : Addr
  d__law_begun : FuncData
  F__law_begun : FnP K "_law_begun" "_law_begun" s__law_begun a__law_begun d__law_begun
  g__law_begun : mg "_law_begun" = some (.ref a__law_begun)
  a__law_take : Addr
  d__law_take : FuncData
  F__law_take : FnP K "_law_take" "_law_take" s__law_take a__law_take d__law_take
  g__law_take : mg "_law_take" = some (.ref a__law_take)
  a__law_alike : Addr
  d__law_alike : FuncData
  F__law_alike : FnP K "_law_alike" "_law_alike" s__law_alike a__law_alike d__law_alike
  g__law_alike : mg "_law_alike" = some (.ref a__law_alike)
  a__law_told : Addr
  d__law_told : FuncData
  F__law_told : FnP K "_law_told" "_law_told" s__law_told a__law_told d__law_told
  g__law_told : mg "_law_told" = some (.ref a__law_told)
  a__law_all : Addr
  d__law_all : FuncData
  F__law_all : FnP K "_law_all" "_law_all" s__law_all a__law_all d__law_all
  g__law_all : mg "_law_all" = some (.ref a__law_all)
  a__law_all_hear : Addr
  d__law_all_hear : FuncData
  F__law_all_hear : FnP K "_law_all_hear" "_law_all_hear" s__law_all_hear a__law_all_hear d__law_all_hear
  g__law_all_hear : mg "_law_all_hear" = some (.ref a__law_all_hear)
  a__law_is_last : Addr
  e__law_is_last : He.fAd K ("_law_is_last", none) = a__law_is_last
  d__law_is_last : FuncData
  F__law_is_last : FnP K "_law_is_last" "_law_is_last" s__law_is_last a__law_is_last d__law_is_last
  g__law_is_last : mg "_law_is_last" = some (.ref a__law_is_last)
  a_law : Addr
  d_law : FuncData
  F_law : FnP K "law" "law" s_law a_law d_law
  g_law : mg "law" = some (.ref a_law)
def cm {w : World} {K : PySem.W.Frag} {mg : Str → Option Value} (T : Tx w K mg) (c : Nat) : Addr := match c with
  | 0 => T.c_Pane
  | 1 => T.c_Look
  | 2 => T.c_Seat
  | 3 => T.c_Hall
  | 100 => He.ga K "BadCount"
  | 101 => He.ga K "BadFields"
  | 102 => He.ga K "BadLook"
  | 103 => He.ga K "BadSign"
  | 104 => He.ga K "BadSize"
  | 105 => He.ga K "BadText"
  | 106 => He.ga K "NoLook"
  | _ => 0
def tm (K : PySem.W.Frag) (t : Nat) : Addr := match t with
  | 0 => He.tabOf K (He.codeOf K ("_law_is_last", none))
  | _ => 0
abbrev gx {w : World} {K : PySem.W.Frag} {mg : Str → Option Value} (T : Tx w K mg) : Gx := { cm := cm T, fl := fl, tm := tm K, tl := tl }
abbrev gxo {w : World} {K : PySem.W.Frag} {mg : Str → Option Value} (T : Tx w K mg) (cel : Addr → Option Obj) : Gx := { cm := cm T, fl := fl, tm := tm K, tl := tl, cel := cel }
theorem cm_x {w : World} {K : PySem.W.Frag} {mg : Str → Option Value} (T : Tx w K mg) : ∀ j x, kindsX[j]? = some x → (gx T).cm (100 + j) = He.ga K x := fun j x h => by
  match j, h with
  | 0, h => cases h; rfl
  | 1, h => cases h; rfl
  | 2, h => cases h; rfl
  | 3, h => cases h; rfl
  | 4, h => cases h; rfl
  | 5, h => cases h; rfl
  | 6, h => cases h; rfl
  | n + 7, h => cases h
section
variable {P : Program} {w : World} {K : PySem.W.Frag} {mg : Str → Option Value} {base : Heap}
theorem bd_is_number (T : Tx w K mg) : Binds K T.d_is_number ["part", "low", "high"] [] := FunD.bindsN T.F_is_number fun _ _ _ _ _ _ us hl => match us, hl with | [_, _, _], _ => rfl
theorem ok_is_number (T : Tx w K mg) : FnOk P w K mg base CX0 1 T.a_is_number T.d_is_number ["part", "low", "high"] (spOf K (gx T) 3 AH.F_is_number) := by
  refine T.F_is_number.ok (k := 0) sc_is_number sp_len (fun cdv A outer s H vs Q E hr h => ?_)
  refine' ⟨_, PSs.nox ?p, body_ok (N := N_is_number) (n := 3) (b := AH.b_is_number) ?s (by decide) h⟩
  case p => exact (pss_one (ps_ret (pe_and (pe_callB (callIsi K) rfl T.n_isinstance (by decide +kernel) (pa_cons (pv 0) (pa_cons (pe_bltn (v := .ty "int") rfl T.n_int (by decide +kernel) rfl) pa_nil))) (pe_and (pe_not (pe_callB (callIsi K) rfl T.n_isinstance (by decide +kernel) (pa_cons (pv 0) (pa_cons (pe_bltn (v := .ty "bool") rfl T.n_bool (by decide +kernel) rfl) pa_nil)))) (pe_one (pe_chain op_le op_le (pv 1) (pv 0) (pv 2)))))))
  case s => exact (ss_ret (se_and (se_n sn_isT (sa_cons se_var (sa_cons (se_c rv_raw) sa_nil))) (se_and (se_not (se_n sn_isT (sa_cons se_var (sa_cons (se_c rv_raw) sa_nil)))) (se_chain s2_cmp s2_cmp se_var se_var se_var))))
theorem bd_need_size (T : Tx w K mg) : Binds K T.d_need_size ["wide", "high"] [] := FunD.bindsN T.F_need_size fun _ _ _ _ _ _ us hl => match us, hl with | [_, _], _ => rfl
theorem ok_need_size (T : Tx w K mg) : FnOk P w K mg base CX0 2 T.a_need_size T.d_need_size ["wide", "high"] (spOf K (gx T) 2 AH.F_need_size) := by
  obtain ⟨t_LEAST_WIDE, k_LEAST_WIDE⟩ := T.k_LEAST_WIDE
  obtain ⟨t_MOST_HIGH, k_MOST_HIGH⟩ := T.k_MOST_HIGH
  obtain ⟨t_MOST_WIDE, k_MOST_WIDE⟩ := T.k_MOST_WIDE
  refine T.F_need_size.ok (k := 1) sc_need_size sp_len (fun cdv A outer s H vs Q E hr h => ?_)
  refine' ⟨_, PSs.nox ?p, body_ok (N := N_need_size) (n := 2) (b := AH.b_need_size) ?s (by decide) h⟩
  case p => exact (pss_one (ps_if (PW.pt (pw_or (pt_not (pt_val (pe_call (ok_is_number T) (hr.mono (by decide)) rfl T.g_is_number T.F_is_number.kp (bd_is_number T) .nil pass0 (pa_cons (pv 0) (pa_cons (pe_glob (v := .int _) rfl k_LEAST_WIDE ⟨_, rfl⟩) (pa_cons (pe_glob (v := .int _) rfl k_MOST_WIDE ⟨_, rfl⟩) pa_nil)))))) (pw_or1 (pt_not (pt_val (pe_call (ok_is_number T) (hr.mono (by decide)) rfl T.g_is_number T.F_is_number.kp (bd_is_number T) .nil pass0 (pa_cons (pv 1) (pa_cons pe_int (pa_cons (pe_glob (v := .int _) rfl k_MOST_HIGH ⟨_, rfl⟩) pa_nil))))))))) (pss_one ps_never) pss_nil))
  case s => exact (ss_if (st_or (st_not (st_B (se_call runB_len (sa_cons se_var (sa_cons (se_c (d := .int 2) rv_int) (sa_cons (se_c (d := .int 40) rv_int) sa_nil)))))) (st_not (st_B (se_call runB_len (sa_cons se_var (sa_cons (se_c (d := .int 1) rv_int) (sa_cons (se_c (d := .int 20) rv_int) sa_nil))))))) ss_never ss_next)
theorem bd_need_signs (T : Tx w K mg) : Binds K T.d_need_signs ["signs"] [] := FunD.bindsN T.F_need_signs fun _ _ _ _ _ _ us hl => match us, hl with | [_], _ => rfl
theorem ok_need_signs (T : Tx w K mg) : FnOk P w K mg base CX0 1 T.a_need_signs T.d_need_signs ["signs"] (spOf K (gx T) 1 AH.F_need_signs) := by
  obtain ⟨t_BACK, k_BACK⟩ := T.k_BACK
  obtain ⟨t_BLANK, k_BLANK⟩ := T.k_BLANK
  obtain ⟨t_ENDS, k_ENDS⟩ := T.k_ENDS
  obtain ⟨t_FIGURES, k_FIGURES⟩ := T.k_FIGURES
  obtain ⟨t_LETTERS, k_LETTERS⟩ := T.k_LETTERS
  refine T.F_need_signs.ok (k := 0) sc_need_signs sp_len (fun cdv A outer s H vs Q E hr h => ?_)
  refine' ⟨_, PSs.nox ?p, body_ok (N := N_need_signs) (n := 1) (b := AH.b_need_signs) ?s (by decide) h⟩
  case p => exact (pss_one (ps_for PassesOwn.never rfl (pi_enumS rfl T.n_enumerate (pa_cons (pv 0) pa_nil)) (pgTup K rfl (pgs_cons (pg_name (i := 1) sc_need_signs.nd rfl (Or.inl rfl)) (pgs_cons (pg_name (i := 2) sc_need_signs.nd rfl (Or.inl rfl)) pgs_nil))) (pss_one (ps_if (pt_cmpR op_notIn_sign (pv 2) (pe_op (opAdd K) (pe_op (opAdd K) (pe_op (opAdd K) (pe_op (opAdd K) (pe_glob (v := .str _) rfl k_LETTERS ⟨_, rfl⟩) (pe_glob (v := .str _) rfl k_FIGURES ⟨_, rfl⟩)) (pe_glob (v := .str _) rfl k_BLANK ⟨_, rfl⟩)) (pe_glob (v := .str _) rfl k_BACK ⟨_, rfl⟩)) (pe_glob (v := .str _) rfl k_ENDS ⟨_, rfl⟩)) (by rfl)) (pss_one ps_never) pss_nil))))
  case s => exact (ss_for (si_enumS (sa_cons se_var sa_nil)) (sg_tup (sgs_cons sg_name (sgs_cons sg_name sgs_nil))) (ss_if (st_test (se_op s2_notInS se_var (se_op s2_add (se_op s2_add (se_op s2_add (se_op s2_add (se_c (d := .str [97, 98, 99, 100, 101, 102, 103, 104, 105, 106, 107, 108, 109, 110, 111, 112, 113, 114, 115, 116, 117, 118, 119, 120, 121, 122]) (rv_str (by decide +kernel))) (se_c (d := .str [48, 49, 50, 51, 52, 53, 54, 55, 56, 57]) (rv_str (by decide +kernel)))) (se_c (d := .str [32]) (rv_str (by decide +kernel)))) (se_c (d := .str [60]) (rv_str (by decide +kernel)))) (se_c (d := .str [59]) (rv_str (by decide +kernel)))))) ss_never ss_next))
theorem bd_changed (T : Tx w K mg) : Binds K T.d_changed ["rows", "line", "change"] [] := FunD.bindsN T.F_changed fun _ _ _ _ _ _ us hl => match us, hl with | [_, _, _], _ => rfl
theorem ok_changed (T : Tx w K mg) : FnOk P w K mg base CX0 1 T.a_changed T.d_changed ["rows", "line", "change"] (spOf K (gx T) 3 AH.F_changed) := by
  obtain ⟨t_CLEAR, k_CLEAR⟩ := T.k_CLEAR
  obtain ⟨t_LINE, k_LINE⟩ := T.k_LINE
  obtain ⟨t_MOST_ROWS, k_MOST_ROWS⟩ := T.k_MOST_ROWS
  refine T.F_changed.ok (k := 0) sc_changed sp_len (fun cdv A outer s H vs Q E hr h => ?_)
  refine' ⟨_, PSs.nox ?p, body_ok (N := N_changed) (n := 3) (b := AH.b_changed) ?s (by decide) h⟩
  case p => exact (pss_cons (ps_asg (pv 2) (pgTup K rfl (pgs_cons (pg_name (i := 3) sc_changed.nd rfl (Or.inl rfl)) (pgs_cons (pg_name (i := 4) sc_changed.nd rfl (Or.inl rfl)) pgs_nil))))
    (pss_cons (ps_if (pt_cmpR (opEq K hr.units) (pv 3) (pe_glob (v := .str _) rfl k_LINE ⟨_, rfl⟩) (nomark _)) (pss_one (ps_ret (pe_tup (pa_cons (pv 0) (pa_cons (pv 4) pa_nil))))) pss_nil)
    (pss_cons (ps_if (pt_cmpR (opEq K hr.units) (pv 3) (pe_glob (v := .str _) rfl k_CLEAR ⟨_, rfl⟩) (nomark _)) (pss_one (ps_ret (pe_tup (pa_cons (pe_lst pa_nil) (pa_cons (pv 1) pa_nil))))) pss_nil)
    (pss_one (ps_ret (pe_tup (pa_cons (pe_slice (slList K) (pe_op op_cat (pv 0) (pe_lst (pa_cons (pv 4) pa_nil))) (po_some (pe_op op_sub pe_int (pe_glob (v := .int _) rfl k_MOST_ROWS ⟨_, rfl⟩))) po_none) (pa_cons (pv 1) pa_nil))))))))
  case s => exact (ss_seq (ss_asg se_var (sg_tup (sgs_cons sg_name (sgs_cons sg_name sgs_nil))))
    (ss_seq (ss_if (st_test (se_op s2_eq se_var (se_c (d := .str [108, 105, 110, 101]) (rv_str (by decide +kernel))))) (ss_ret (se_tup (sa_cons se_var (sa_cons se_var sa_nil)))) ss_next)
    (ss_seq (ss_if (st_test (se_op s2_eq se_var (se_c (d := .str [99, 108, 101, 97, 114]) (rv_str (by decide +kernel))))) (ss_ret (se_tup (sa_cons (se_of (sf_lst sa_nil)) (sa_cons se_var sa_nil)))) ss_next)
    (ss_ret (se_tup (sa_cons (se_of (sf_sl s3f_sl (se_of (sf_op s2f_cat se_var (se_of (sf_lst (sa_cons se_var sa_nil))))) (so_some (se_op s2_sub (se_c (d := .int 0) rv_int) (se_c (d := .int 40) rv_int))) so_none)) (sa_cons se_var sa_nil)))))))
theorem bd_count_of (T : Tx w K mg) : Binds K T.d_count_of ["line"] [] := FunD.bindsN T.F_count_of fun _ _ _ _ _ _ us hl => match us, hl with | [_], _ => rfl
theorem ok_count_of (T : Tx w K mg) : FnOk P w K mg base CX0 1 T.a_count_of T.d_count_of ["line"] (spOf K (gx T) 1 AH.F_count_of) := by
  obtain ⟨t_FIGURES, k_FIGURES⟩ := T.k_FIGURES
  refine T.F_count_of.ok (k := 0) sc_count_of sp_len (fun cdv A outer s H vs Q E hr h => ?_)
  refine' ⟨_, PSs.nox ?p, body_ok (N := N_count_of) (n := 1) (b := AH.b_count_of) ?s (by decide) h⟩
  case p => exact (pss_cons (ps_set (i := 1) sc_count_of.nd rfl (Or.inl rfl) (pe_split (pv 0) pe_str))
    (pss_cons (ps_if (PW.pt (pw_or (pt_cmpR (opNe K hr.units) (pe_callB (callLen K) rfl T.n_len (by decide +kernel) (pa_cons (pv 1) pa_nil)) pe_int (nomark _)) (pw_or (pt_cmpR (opNe K hr.units) (pe_ix (ixSeq K) (pv 1) pe_int (fun _ _ => rfl)) pe_str (nomark _)) (pw_or1 (pt_not (pt_chain op_le op_le pe_int (pe_callB (callLen K) rfl T.n_len (by decide +kernel) (pa_cons (pe_ix (ixSeq K) (pv 1) pe_int (fun _ _ => rfl)) pa_nil)) pe_int)))))) (pss_one (ps_ret pe_non)) pss_nil)
    (pss_cons (ps_if (PW.pt (pw_or (pt_cmpR (opNe K hr.units) (pe_lc (own := [("sign", 2)]) (g := (gName 2)) rfl sc_count_of.nd (pi_str (pe_ix (ixSeq K) (pv 1) pe_int (fun _ _ => rfl))) (blkOk_by (own := [("sign", 2)]) (N := N_count_of) (sc := defScope s_count_of) (by decide +kernel)) (fun _ _ _ _ _ => (pg_name (i := 2) sc_count_of.nd rfl (Or.inl rfl))) (fun _ _ _ _ _ => (pts_one (pt_cmpR op_notIn_sign (pv 2) (pe_glob (v := .str _) rfl k_FIGURES ⟨_, rfl⟩) (by rfl)))) (fun _ _ _ _ _ => (pv 2))) (pe_lst pa_nil) (nomark _)) (pw_or1 (pt_cmpR (opEq K hr.units) (pe_ix (ixSeq K) (pe_ix (ixSeq K) (pv 1) pe_int (fun _ _ => rfl)) pe_int (fun _ _ => rfl)) pe_str (nomark _))))) (pss_one (ps_ret pe_non)) pss_nil)
    (pss_one (ps_ret (pe_callTy call_int_str rfl T.n_int (by decide +kernel) (pa_cons (pe_ix (ixSeq K) (pv 1) pe_int (fun _ _ => rfl)) pa_nil)))))))
  case s => exact (ss_seq (ss_asg (se_of (sf_tm1 smf_split se_var (se_c (d := .str [32]) (rv_str (by decide +kernel))))) sg_name)
    (ss_seq (ss_if (st_or (st_test (se_op s2_ne (se_n sn_len (sa_cons se_var sa_nil)) (se_c (d := .int 2) rv_int))) (st_or (st_test (se_op s2_ne (se_op s2_ix se_var (se_c (d := .int 0) rv_int)) (se_c (d := .str [109, 97, 110, 121]) (rv_str (by decide +kernel))))) (st_not (st_test (se_chain s2_cmp s2_cmp (se_c (d := .int 1) rv_int) (se_n sn_len (sa_cons (se_op s2_ix se_var (se_c (d := .int 1) rv_int)) sa_nil)) (se_c (d := .int 2) rv_int)))))) (ss_ret (se_c (v := .non) (d := .non) rv_non)) ss_next)
    (ss_seq (ss_if (st_or (st_test (se_op s2_ne (se_of (sf_lc (vs := [2]) (si_str (se_op s2_ix se_var (se_c (d := .int 1) rv_int))) (sp_name (by decide)) (st_test (se_op s2_notInS se_var (se_c (d := .str [48, 49, 50, 51, 52, 53, 54, 55, 56, 57]) (rv_str (by decide +kernel))))) se_var)) (se_of (sf_lst sa_nil)))) (st_test (se_op s2_eq (se_op s2_ix (se_op s2_ix se_var (se_c (d := .int 1) rv_int)) (se_c (d := .int 0) rv_int)) (se_c (d := .str [48]) (rv_str (by decide +kernel)))))) (ss_ret (se_c (v := .non) (d := .non) rv_non)) ss_next)
    (ss_ret (se_n sn_intS (sa_cons (se_op s2_ix se_var (se_c (d := .int 1) rv_int)) sa_nil))))))
theorem bd_Pane___init__ (T : Tx w K mg) : Binds K T.d_Pane___init__ ["self"] [] := FunD.bindsN T.F_Pane___init__ fun _ _ _ _ _ _ us hl => match us, hl with | [_], _ => rfl
theorem ok_Pane___init__ (T : Tx w K mg) : FnOk P w K mg base CX0 1 T.a_Pane___init__ T.d_Pane___init__ ["self"] (spOf K (gx T) 1 AH.F_Pane___init__) := by
  refine T.F_Pane___init__.ok (k := 0) sc_Pane___init__ sp_len (fun cdv A outer s H vs Q E hr h => ?_)
  refine' ⟨_, PSs.nox ?p, body_ok (N := N_Pane___init__) (n := 1) (b := AH.b_Pane___init__) ?s (by decide) h⟩
  case p => exact (pss_cons (psFld K (pv 0) (pe_lst pa_nil))
    (pss_cons (psFld K (pv 0) pe_str)
    (pss_cons (psFld K (pv 0) pe_non)
    (pss_cons (psFld K (pv 0) pe_int)
    (pss_cons (psFld K (pv 0) (pe_lst pa_nil))
    (pss_one (psFld K (pv 0) (pe_lst pa_nil))))))))
  case s => exact (ss_seq (ss_fld (c := 0) (i := 0) rfl T.cl_Pane T.na_Pane_kept nd_Pane lz_Pane se_var (se_of (sf_lst sa_nil)))
    (ss_seq (ss_fld (c := 0) (i := 1) rfl T.cl_Pane T.na_Pane_text nd_Pane lz_Pane se_var (se_c (d := .str []) (rv_str (by decide +kernel))))
    (ss_seq (ss_fld (c := 0) (i := 2) rfl T.cl_Pane T.na_Pane_work nd_Pane lz_Pane se_var (se_c (v := .non) (d := .non) rv_non))
    (ss_seq (ss_fld (c := 0) (i := 3) rfl T.cl_Pane T.na_Pane_many nd_Pane lz_Pane se_var (se_c (d := .int 0) rv_int))
    (ss_seq (ss_fld (c := 0) (i := 4) rfl T.cl_Pane T.na_Pane_past nd_Pane lz_Pane se_var (se_of (sf_lst sa_nil)))
    (ss_fld (c := 0) (i := 5) rfl T.cl_Pane T.na_Pane_notes nd_Pane lz_Pane se_var (se_of (sf_lst sa_nil))))))))
theorem bd_Pane_change (T : Tx w K mg) : Binds K T.d_Pane_change ["self", "word", "text"] [] := FunD.bindsN T.F_Pane_change fun _ _ _ _ _ _ us hl => match us, hl with | [_, _, _], _ => rfl
theorem ok_Pane_change (T : Tx w K mg) : FnOk P w K mg base CX0 2 T.a_Pane_change T.d_Pane_change ["self", "word", "text"] (spOf K (gx T) 3 AH.F_Pane_change) := by
  obtain ⟨t_MOST_PAST, k_MOST_PAST⟩ := T.k_MOST_PAST
  refine T.F_Pane_change.ok (k := 1) sc_Pane_change sp_len (fun cdv A outer s H vs Q E hr h => ?_)
  refine' ⟨_, PSs.nox ?p, body_ok (N := N_Pane_change) (n := 3) (b := AH.b_Pane_change) ?s (by decide) h⟩
  case p => exact (pss_cons (ps_asg (pe_call (ok_changed T) (hr.mono (by decide)) rfl T.g_changed T.F_changed.kp (bd_changed T) .nil pass0 (pa_cons (peFld K (pv 0)) (pa_cons (peFld K (pv 0)) (pa_cons (pe_tup (pa_cons (pv 1) (pa_cons (pv 2) pa_nil))) pa_nil)))) (pgTup K rfl (pgs_cons (pg_fld K (pv 0)) (pgs_cons (pg_fld K (pv 0)) pgs_nil))))
    (pss_cons (psFld K (pv 0) (pe_op (opAdd K) (peFld K (pv 0)) pe_int))
    (pss_one (psFld K (pv 0) (pe_slice (slList K) (pe_op op_cat (peFld K (pv 0)) (pe_lst (pa_cons (pe_tup (pa_cons (pv 1) (pa_cons (pv 2) pa_nil))) pa_nil))) (po_some (pe_op op_sub pe_int (pe_glob (v := .int _) rfl k_MOST_PAST ⟨_, rfl⟩))) po_none)))))
  case s => exact (ss_seq (ss_asg (se_call runB_len (sa_cons (se_fld (c := 0) (i := 0) rfl T.cl_Pane T.na_Pane_kept nd_Pane se_var) (sa_cons (se_fld (c := 0) (i := 1) rfl T.cl_Pane T.na_Pane_text nd_Pane se_var) (sa_cons (se_tup (sa_cons se_var (sa_cons se_var sa_nil))) sa_nil)))) (sg_tup (sgs_cons (sg_fld (c := 0) (i := 0) rfl T.cl_Pane T.na_Pane_kept nd_Pane lz_Pane se_var) (sgs_cons (sg_fld (c := 0) (i := 1) rfl T.cl_Pane T.na_Pane_text nd_Pane lz_Pane se_var) sgs_nil))))
    (ss_seq (ss_fld (c := 0) (i := 3) rfl T.cl_Pane T.na_Pane_many nd_Pane lz_Pane se_var (se_op s2_add (se_fld (c := 0) (i := 3) rfl T.cl_Pane T.na_Pane_many nd_Pane se_var) (se_c (d := .int 1) rv_int)))
    (ss_fld (c := 0) (i := 4) rfl T.cl_Pane T.na_Pane_past nd_Pane lz_Pane se_var (se_of (sf_sl s3f_sl (se_of (sf_op s2f_cat (se_fld (c := 0) (i := 4) rfl T.cl_Pane T.na_Pane_past nd_Pane se_var) (se_of (sf_lst (sa_cons (se_tup (sa_cons se_var (sa_cons se_var sa_nil))) sa_nil))))) (so_some (se_op s2_sub (se_c (d := .int 0) rv_int) (se_c (d := .int 30) rv_int))) so_none)))))
theorem bd_Pane_do (T : Tx w K mg) : Binds K T.d_Pane_do ["self", "line"] [] := FunD.bindsN T.F_Pane_do fun _ _ _ _ _ _ us hl => match us, hl with | [_, _], _ => rfl
theorem ok_Pane_do (T : Tx w K mg) : FnOk P w K mg base CX0 3 T.a_Pane_do T.d_Pane_do ["self", "line"] (spOf K (gx T) 2 AH.F_Pane_do) := by
  obtain ⟨t_CLEAR, k_CLEAR⟩ := T.k_CLEAR
  obtain ⟨t_LINE, k_LINE⟩ := T.k_LINE
  obtain ⟨t_PROMPT, k_PROMPT⟩ := T.k_PROMPT
  obtain ⟨t_ROW, k_ROW⟩ := T.k_ROW
  refine T.F_Pane_do.ok (k := 2) sc_Pane_do sp_len (fun cdv A outer s H vs Q E hr h => ?_)
  refine' ⟨_, PSs.nox ?p, body_ok (N := N_Pane_do) (n := 2) (b := AH.b_Pane_do) ?s (by decide) h⟩
  case p => exact (pss_cons (ps_expr (pe_meth (pv 0) T.cl_Pane T.me_Pane_change (ok_Pane_change T) (hr.mono (by decide)) (bd_Pane_change T) .nil pass0 (pa_cons (pe_glob (v := .str _) rfl k_ROW ⟨_, rfl⟩) (pa_cons (pe_op (opAdd K) (pe_glob (v := .str _) rfl k_PROMPT ⟨_, rfl⟩) (pv 1)) pa_nil))))
    (pss_cons (ps_if (pt_cmpR (opNe K hr.units) (pv 1) pe_str (nomark _)) (pss_one (ps_expr (pe_meth (pv 0) T.cl_Pane T.me_Pane_change (ok_Pane_change T) (hr.mono (by decide)) (bd_Pane_change T) .nil pass0 (pa_cons (pe_glob (v := .str _) rfl k_LINE ⟨_, rfl⟩) (pa_cons pe_str pa_nil))))) pss_nil)
    (pss_one (ps_if (pt_cmpR (opEq K hr.units) (pe_slice (slAny K) (pv 1) po_none (po_some pe_int)) pe_str (nomark _)) (pss_one (ps_expr (pe_meth (pv 0) T.cl_Pane T.me_Pane_change (ok_Pane_change T) (hr.mono (by decide)) (bd_Pane_change T) .nil pass0 (pa_cons (pe_glob (v := .str _) rfl k_ROW ⟨_, rfl⟩) (pa_cons (pe_slice (slAny K) (pv 1) (po_some pe_int) po_none) pa_nil))))) (pss_one (ps_if (pt_cmpR (opEq K hr.units) (pv 1) pe_str (nomark _)) (pss_one (ps_expr (pe_meth (pv 0) T.cl_Pane T.me_Pane_change (ok_Pane_change T) (hr.mono (by decide)) (bd_Pane_change T) .nil pass0 (pa_cons (pe_glob (v := .str _) rfl k_CLEAR ⟨_, rfl⟩) (pa_cons pe_str pa_nil))))) (pss_one (ps_if (PW.pt (pw_and (pt_cmpR (opEq K hr.units) (pv 1) pe_str (nomark _)) (pw_and1 (pt_cmp (pc_notN (peFld K (pv 0))) rfl)))) (pss_one (psFld K (pv 0) pe_non)) (pss_one (ps_if (pt_cmp (pc_notN (pe_call (ok_count_of T) (hr.mono (by decide)) rfl T.g_count_of T.F_count_of.kp (bd_count_of T) .nil pass0 (pa_cons (pv 1) pa_nil))) rfl) (pss_one (psFld K (pv 0) (pe_tup (pa_cons pe_int (pa_cons (pe_call (ok_count_of T) (hr.mono (by decide)) rfl T.g_count_of T.F_count_of.kp (bd_count_of T) .nil pass0 (pa_cons (pv 1) pa_nil)) pa_nil))))) (pss_one (ps_if (pt_cmpR (opNe K hr.units) (pv 1) pe_str (nomark _)) (pss_one (ps_expr (pe_meth (pv 0) T.cl_Pane T.me_Pane_change (ok_Pane_change T) (hr.mono (by decide)) (bd_Pane_change T) .nil pass0 (pa_cons (pe_glob (v := .str _) rfl k_ROW ⟨_, rfl⟩) (pa_cons (pe_op (opAdd K) pe_str (pv 1)) pa_nil))))) pss_nil))))))))))))
  case s => exact (ss_seq (ss_do (se_meth (c := 0) rfl nm_Pane_change runB_len se_var (sa_cons (se_c (d := .str [114, 111, 119]) (rv_str (by decide +kernel))) (sa_cons (se_op s2_add (se_c (d := .str [62, 32]) (rv_str (by decide +kernel))) se_var) sa_nil))))
    (ss_seq (ss_if (st_test (se_op s2_ne se_var (se_c (d := .str []) (rv_str (by decide +kernel))))) (ss_do (se_meth (c := 0) rfl nm_Pane_change runB_len se_var (sa_cons (se_c (d := .str [108, 105, 110, 101]) (rv_str (by decide +kernel))) (sa_cons (se_c (d := .str []) (rv_str (by decide +kernel))) sa_nil)))) ss_next)
    (ss_if (st_test (se_op s2_eq (se_sl s3_sl se_var so_none (so_some (se_c (d := .int 4) rv_int))) (se_c (d := .str [115, 97, 121, 32]) (rv_str (by decide +kernel))))) (ss_do (se_meth (c := 0) rfl nm_Pane_change runB_len se_var (sa_cons (se_c (d := .str [114, 111, 119]) (rv_str (by decide +kernel))) (sa_cons (se_sl s3_sl se_var (so_some (se_c (d := .int 4) rv_int)) so_none) sa_nil)))) (ss_if (st_test (se_op s2_eq se_var (se_c (d := .str [99, 108, 101, 97, 114]) (rv_str (by decide +kernel))))) (ss_do (se_meth (c := 0) rfl nm_Pane_change runB_len se_var (sa_cons (se_c (d := .str [99, 108, 101, 97, 114]) (rv_str (by decide +kernel))) (sa_cons (se_c (d := .str []) (rv_str (by decide +kernel))) sa_nil)))) (ss_if (st_and (st_test (se_op s2_eq se_var (se_c (d := .str [115, 116, 111, 112]) (rv_str (by decide +kernel))))) (st_B (se_notN (se_fld (c := 0) (i := 2) rfl T.cl_Pane T.na_Pane_work nd_Pane se_var)))) (ss_fld (c := 0) (i := 2) rfl T.cl_Pane T.na_Pane_work nd_Pane lz_Pane se_var (se_c (v := .non) (d := .non) rv_non)) (ss_if (st_B (se_notN (se_call runB_len (sa_cons se_var sa_nil)))) (ss_fld (c := 0) (i := 2) rfl T.cl_Pane T.na_Pane_work nd_Pane lz_Pane se_var (se_tup (sa_cons (se_c (d := .int 0) rv_int) (sa_cons (se_call runB_len (sa_cons se_var sa_nil)) sa_nil)))) (ss_if (st_test (se_op s2_ne se_var (se_c (d := .str []) (rv_str (by decide +kernel))))) (ss_do (se_meth (c := 0) rfl nm_Pane_change runB_len se_var (sa_cons (se_c (d := .str [114, 111, 119]) (rv_str (by decide +kernel))) (sa_cons (se_op s2_add (se_c (d := .str [63, 32]) (rv_str (by decide +kernel))) se_var) sa_nil)))) ss_next)))))))
theorem bd_Pane_press (T : Tx w K mg) : Binds K T.d_Pane_press ["self", "look", "session", "sign"] [] := FunD.bindsN T.F_Pane_press fun _ _ _ _ _ _ us hl => match us, hl with | [_, _, _, _], _ => rfl
theorem ok_Pane_press (T : Tx w K mg) : FnOk P w K mg base CX0 4 T.a_Pane_press T.d_Pane_press ["self", "look", "session", "sign"] (spOf K (gx T) 4 AH.F_Pane_press) := by
  obtain ⟨t_BACK, k_BACK⟩ := T.k_BACK
  obtain ⟨t_ENDS, k_ENDS⟩ := T.k_ENDS
  obtain ⟨t_LINE, k_LINE⟩ := T.k_LINE
  obtain ⟨t_MOST_LINE, k_MOST_LINE⟩ := T.k_MOST_LINE
  obtain ⟨t_MOST_TYPED, k_MOST_TYPED⟩ := T.k_MOST_TYPED
  refine T.F_Pane_press.ok (k := 3) sc_Pane_press sp_len (fun cdv A outer s H vs Q E hr h => ?_)
  refine' ⟨_, PSs.nox ?p, body_ok (N := N_Pane_press) (n := 4) (b := AH.b_Pane_press) ?s (by decide) h⟩
  case p => exact (pss_cons (ps_expr (pe_call (ok_need_signs T) (hr.mono (by decide)) rfl T.g_need_signs T.F_need_signs.kp (bd_need_signs T) .nil pass0 (pa_cons (pv 3) pa_nil)))
    (pss_cons (psFld K (pv 0) (pe_slice (slList K) (pe_op op_cat (peFld K (pv 0)) (pe_lst (pa_cons (pe_tup (pa_cons (pv 1) (pa_cons (pv 2) (pa_cons (pv 3) pa_nil)))) pa_nil))) (po_some (pe_op op_sub pe_int (pe_glob (v := .int _) rfl k_MOST_TYPED ⟨_, rfl⟩))) po_none))
    (pss_one (ps_if (pt_cmpR (opEq K hr.units) (pv 3) (pe_glob (v := .str _) rfl k_ENDS ⟨_, rfl⟩) (nomark _)) (pss_one (ps_expr (pe_meth (pv 0) T.cl_Pane T.me_Pane_do (ok_Pane_do T) (hr.mono (by decide)) (bd_Pane_do T) .nil pass0 (pa_cons (peFld K (pv 0)) pa_nil)))) (pss_one (ps_if (pt_cmpR (opEq K hr.units) (pv 3) (pe_glob (v := .str _) rfl k_BACK ⟨_, rfl⟩) (nomark _)) (pss_one (ps_if (pt_cmpR (opNe K hr.units) (peFld K (pv 0)) pe_str (nomark _)) (pss_one (ps_expr (pe_meth (pv 0) T.cl_Pane T.me_Pane_change (ok_Pane_change T) (hr.mono (by decide)) (bd_Pane_change T) .nil pass0 (pa_cons (pe_glob (v := .str _) rfl k_LINE ⟨_, rfl⟩) (pa_cons (pe_slice (slAny K) (peFld K (pv 0)) po_none (po_some (pe_un un_neg pe_int))) pa_nil))))) pss_nil)) (pss_one (ps_if (pt_cmpR op_lt (pe_callB (callLen K) rfl T.n_len (by decide +kernel) (pa_cons (peFld K (pv 0)) pa_nil)) (pe_glob (v := .int _) rfl k_MOST_LINE ⟨_, rfl⟩) (nomark _)) (pss_one (ps_expr (pe_meth (pv 0) T.cl_Pane T.me_Pane_change (ok_Pane_change T) (hr.mono (by decide)) (bd_Pane_change T) .nil pass0 (pa_cons (pe_glob (v := .str _) rfl k_LINE ⟨_, rfl⟩) (pa_cons (pe_op (opAdd K) (peFld K (pv 0)) (pv 3)) pa_nil))))) pss_nil))))))))
  case s => exact (ss_seq (ss_do (se_call runB_len (sa_cons se_var sa_nil)))
    (ss_seq (ss_fld (c := 0) (i := 5) rfl T.cl_Pane T.na_Pane_notes nd_Pane lz_Pane se_var (se_of (sf_sl s3f_sl (se_of (sf_op s2f_cat (se_fld (c := 0) (i := 5) rfl T.cl_Pane T.na_Pane_notes nd_Pane se_var) (se_of (sf_lst (sa_cons (se_tup (sa_cons se_var (sa_cons se_var (sa_cons se_var sa_nil)))) sa_nil))))) (so_some (se_op s2_sub (se_c (d := .int 0) rv_int) (se_c (d := .int 100) rv_int))) so_none)))
    (ss_if (st_test (se_op s2_eq se_var (se_c (d := .str [59]) (rv_str (by decide +kernel))))) (ss_do (se_meth (c := 0) rfl nm_Pane_do runB_len se_var (sa_cons (se_fld (c := 0) (i := 1) rfl T.cl_Pane T.na_Pane_text nd_Pane se_var) sa_nil))) (ss_if (st_test (se_op s2_eq se_var (se_c (d := .str [60]) (rv_str (by decide +kernel))))) (ss_if (st_test (se_op s2_ne (se_fld (c := 0) (i := 1) rfl T.cl_Pane T.na_Pane_text nd_Pane se_var) (se_c (d := .str []) (rv_str (by decide +kernel))))) (ss_do (se_meth (c := 0) rfl nm_Pane_change runB_len se_var (sa_cons (se_c (d := .str [108, 105, 110, 101]) (rv_str (by decide +kernel))) (sa_cons (se_sl s3_sl (se_fld (c := 0) (i := 1) rfl T.cl_Pane T.na_Pane_text nd_Pane se_var) so_none (so_some (se_un s1_neg (se_c (d := .int 1) rv_int)))) sa_nil)))) ss_next) (ss_if (st_test (se_op s2_cmp (se_n sn_len (sa_cons (se_fld (c := 0) (i := 1) rfl T.cl_Pane T.na_Pane_text nd_Pane se_var) sa_nil)) (se_c (d := .int 30) rv_int))) (ss_do (se_meth (c := 0) rfl nm_Pane_change runB_len se_var (sa_cons (se_c (d := .str [108, 105, 110, 101]) (rv_str (by decide +kernel))) (sa_cons (se_op s2_add (se_fld (c := 0) (i := 1) rfl T.cl_Pane T.na_Pane_text nd_Pane se_var) se_var) sa_nil)))) ss_next)))))
theorem bd_Pane_rows (T : Tx w K mg) : Binds K T.d_Pane_rows ["self"] [] := FunD.bindsN T.F_Pane_rows fun _ _ _ _ _ _ us hl => match us, hl with | [_], _ => rfl
theorem ok_Pane_rows (T : Tx w K mg) : FnOk P w K mg base CX0 1 T.a_Pane_rows T.d_Pane_rows ["self"] (spOf K (gx T) 1 AH.F_Pane_rows) := by
  refine T.F_Pane_rows.ok (k := 0) sc_Pane_rows sp_len (fun cdv A outer s H vs Q E hr h => ?_)
  refine' ⟨_, PSs.nox ?p, body_ok (N := N_Pane_rows) (n := 1) (b := AH.b_Pane_rows) ?s (by decide) h⟩
  case p => exact (pss_one (ps_ret (pe_callTy (callList K) rfl T.n_list (by decide +kernel) (pa_cons (peFld K (pv 0)) pa_nil))))
  case s => exact (ss_retF (sf_n snf_listOf (sa_cons (se_fld (c := 0) (i := 0) rfl T.cl_Pane T.na_Pane_kept nd_Pane se_var) sa_nil)))
theorem bd_Pane_line (T : Tx w K mg) : Binds K T.d_Pane_line ["self"] [] := FunD.bindsN T.F_Pane_line fun _ _ _ _ _ _ us hl => match us, hl with | [_], _ => rfl
theorem ok_Pane_line (T : Tx w K mg) : FnOk P w K mg base CX0 1 T.a_Pane_line T.d_Pane_line ["self"] (spOf K (gx T) 1 AH.F_Pane_line) := by
  refine T.F_Pane_line.ok (k := 0) sc_Pane_line sp_len (fun cdv A outer s H vs Q E hr h => ?_)
  refine' ⟨_, PSs.nox ?p, body_ok (N := N_Pane_line) (n := 1) (b := AH.b_Pane_line) ?s (by decide) h⟩
  case p => exact (pss_one (ps_ret (peFld K (pv 0))))
  case s => exact (ss_ret (se_fld (c := 0) (i := 1) rfl T.cl_Pane T.na_Pane_text nd_Pane se_var))
theorem bd_Pane_changes (T : Tx w K mg) : Binds K T.d_Pane_changes ["self"] [] := FunD.bindsN T.F_Pane_changes fun _ _ _ _ _ _ us hl => match us, hl with | [_], _ => rfl
theorem ok_Pane_changes (T : Tx w K mg) : FnOk P w K mg base CX0 1 T.a_Pane_changes T.d_Pane_changes ["self"] (spOf K (gx T) 1 AH.F_Pane_changes) := by
  refine T.F_Pane_changes.ok (k := 0) sc_Pane_changes sp_len (fun cdv A outer s H vs Q E hr h => ?_)
  refine' ⟨_, PSs.nox ?p, body_ok (N := N_Pane_changes) (n := 1) (b := AH.b_Pane_changes) ?s (by decide) h⟩
  case p => exact (pss_one (ps_ret (peFld K (pv 0))))
  case s => exact (ss_ret (se_fld (c := 0) (i := 3) rfl T.cl_Pane T.na_Pane_many nd_Pane se_var))
theorem bd_Pane_since (T : Tx w K mg) : Binds K T.d_Pane_since ["self", "number"] [] := FunD.bindsN T.F_Pane_since fun _ _ _ _ _ _ us hl => match us, hl with | [_, _], _ => rfl
theorem ok_Pane_since (T : Tx w K mg) : FnOk P w K mg base CX0 1 T.a_Pane_since T.d_Pane_since ["self", "number"] (spOf K (gx T) 2 AH.F_Pane_since) := by
  refine T.F_Pane_since.ok (k := 0) sc_Pane_since sp_len (fun cdv A outer s H vs Q E hr h => ?_)
  refine' ⟨_, PSs.nox ?p, body_ok (N := N_Pane_since) (n := 2) (b := AH.b_Pane_since) ?s (by decide) h⟩
  case p => exact (pss_cons (ps_if (pt_not (pt_chain op_le op_le (pe_op op_sub (peFld K (pv 0)) (pe_callB (callLen K) rfl T.n_len (by decide +kernel) (pa_cons (peFld K (pv 0)) pa_nil))) (pv 1) (peFld K (pv 0)))) (pss_one (ps_ret pe_non)) pss_nil)
    (pss_one (ps_ret (pe_slice (slList K) (peFld K (pv 0)) (po_some (pe_op op_sub (pe_callB (callLen K) rfl T.n_len (by decide +kernel) (pa_cons (peFld K (pv 0)) pa_nil)) (pe_op op_sub (peFld K (pv 0)) (pv 1)))) po_none))))
  case s => exact (ss_seq (ss_if (st_not (st_test (se_chain s2_cmp s2_cmp (se_op s2_sub (se_fld (c := 0) (i := 3) rfl T.cl_Pane T.na_Pane_many nd_Pane se_var) (se_n sn_len (sa_cons (se_fld (c := 0) (i := 4) rfl T.cl_Pane T.na_Pane_past nd_Pane se_var) sa_nil))) se_var (se_fld (c := 0) (i := 3) rfl T.cl_Pane T.na_Pane_many nd_Pane se_var)))) (ss_ret (se_c (v := .non) (d := .non) rv_non)) ss_next)
    (ss_retF (sf_sl s3f_sl (se_fld (c := 0) (i := 4) rfl T.cl_Pane T.na_Pane_past nd_Pane se_var) (so_some (se_op s2_sub (se_n sn_len (sa_cons (se_fld (c := 0) (i := 4) rfl T.cl_Pane T.na_Pane_past nd_Pane se_var) sa_nil)) (se_op s2_sub (se_fld (c := 0) (i := 3) rfl T.cl_Pane T.na_Pane_many nd_Pane se_var) se_var))) so_none)))
theorem bd_Pane_typed (T : Tx w K mg) : Binds K T.d_Pane_typed ["self"] [] := FunD.bindsN T.F_Pane_typed fun _ _ _ _ _ _ us hl => match us, hl with | [_], _ => rfl
theorem ok_Pane_typed (T : Tx w K mg) : FnOk P w K mg base CX0 1 T.a_Pane_typed T.d_Pane_typed ["self"] (spOf K (gx T) 1 AH.F_Pane_typed) := by
  refine T.F_Pane_typed.ok (k := 0) sc_Pane_typed sp_len (fun cdv A outer s H vs Q E hr h => ?_)
  refine' ⟨_, PSs.nox ?p, body_ok (N := N_Pane_typed) (n := 1) (b := AH.b_Pane_typed) ?s (by decide) h⟩
  case p => exact (pss_one (ps_ret (pe_callTy (callList K) rfl T.n_list (by decide +kernel) (pa_cons (peFld K (pv 0)) pa_nil))))
  case s => exact (ss_retF (sf_n snf_listOf (sa_cons (se_fld (c := 0) (i := 5) rfl T.cl_Pane T.na_Pane_notes nd_Pane se_var) sa_nil)))
theorem bd_sum_of (T : Tx w K mg) : Binds K T.d_sum_of ["body"] [] := FunD.bindsN T.F_sum_of fun _ _ _ _ _ _ us hl => match us, hl with | [_], _ => rfl
theorem ok_sum_of (T : Tx w K mg) : FnOk P w K mg base CX0 1 T.a_sum_of T.d_sum_of ["body"] (spOf K (gx T) 1 AH.F_sum) := by
  obtain ⟨t_BETWEEN, k_BETWEEN⟩ := T.k_BETWEEN
  obtain ⟨t_RING, k_RING⟩ := T.k_RING
  obtain ⟨t_SIGNS, k_SIGNS⟩ := T.k_SIGNS
  refine T.F_sum_of.ok (k := 0) sc_sum_of sp_len (fun cdv A outer s H vs Q E hr h => ?_)
  refine' ⟨_, PSs.nox ?p, body_ok (N := N_sum_of) (n := 1) (b := AH.bSum) ?s (by decide) h⟩
  case p => exact (pss_cons (ps_set (i := 1) sc_sum_of.nd rfl (Or.inl rfl) pe_int)
    (pss_cons (ps_for PassesOwn.never rfl (pi_str (pv 0)) (pg_name (i := 2) sc_sum_of.nd rfl (Or.inl rfl)) (pss_one (ps_set (i := 1) sc_sum_of.nd rfl (Or.inl rfl) (pe_op op_mod (pe_op (opAdd K) (pe_op (opAdd K) (pe_op op_mulAny (pv 1) pe_int) (pe_m1 PySem.F.slot_str_index PySem.F.type_str_index mt_sindex (pe_op (opAdd K) (pe_glob (v := .str _) rfl k_SIGNS ⟨_, rfl⟩) (pe_glob (v := .str _) rfl k_BETWEEN ⟨_, rfl⟩)) (pv 2))) pe_int) (pe_glob (v := .int _) rfl k_RING ⟨_, rfl⟩)))))
    (pss_one (ps_ret (pv 1)))))
  case s => exact (ss_seq (ss_asg (se_c (d := .int 0) rv_int) sg_name)
    (ss_seq (ss_for (si_str se_var) sg_name (ss_asg (se_op s2_mod (se_op s2_add (se_op s2_add (se_op s2_mul se_var (se_c (d := .int 61) rv_int)) (se_tm1 sm_index (se_op s2_add (se_c (d := .str [97, 98, 99, 100, 101, 102, 103, 104, 105, 106, 107, 108, 109, 110, 111, 112, 113, 114, 115, 116, 117, 118, 119, 120, 121, 122, 48, 49, 50, 51, 52, 53, 54, 55, 56, 57, 32, 62, 63, 60, 59]) (rv_str (by decide +kernel))) (se_c (d := .str [124]) (rv_str (by decide +kernel)))) se_var)) (se_c (d := .int 1) rv_int)) (se_c (d := .int 9973) rv_int)) sg_name))
    (ss_ret se_var)))
theorem bd_packed (T : Tx w K mg) : Binds K T.d_packed ["fields"] [] := FunD.bindsN T.F_packed fun _ _ _ _ _ _ us hl => match us, hl with | [_], _ => rfl
theorem ok_packed (T : Tx w K mg) : FnOk P w K mg base CX0 2 T.a_packed T.d_packed ["fields"] (spOf K (gx T) 1 AH.F_packed) := by
  obtain ⟨t_BETWEEN, k_BETWEEN⟩ := T.k_BETWEEN
  obtain ⟨t_CLOSE, k_CLOSE⟩ := T.k_CLOSE
  obtain ⟨t_POINT, k_POINT⟩ := T.k_POINT
  obtain ⟨t_SIGNS, k_SIGNS⟩ := T.k_SIGNS
  refine T.F_packed.ok (k := 1) sc_packed sp_len (fun cdv A outer s H vs Q E hr h => ?_)
  refine' ⟨_, PSs.nox ?p, body_ok (N := N_packed) (n := 1) (b := AH.bPacked) ?s (by decide) h⟩
  case p => exact (pss_cons (ps_if (PW.pt (pw_or (pt_cmpR (opEq K hr.units) (pe_callB (callLen K) rfl T.n_len (by decide +kernel) (pa_cons (pv 0) pa_nil)) pe_int (nomark _)) (pw_or1 (pt_cmpR (opNe K hr.units) (pe_lc (own := [("sign", 1)]) (g := (gName 1)) rfl sc_packed.nd (pi_str (peJoin K pe_str (pv 0))) (blkOk_by (own := [("sign", 1)]) (N := N_packed) (sc := defScope s_packed) (by decide +kernel)) (fun _ _ _ _ _ => (pg_name (i := 1) sc_packed.nd rfl (Or.inl rfl))) (fun _ _ _ _ _ => (pts_one (pt_cmpR op_notIn_sign (pv 1) (pe_glob (v := .str _) rfl k_SIGNS ⟨_, rfl⟩) (by rfl)))) (fun _ _ _ _ _ => (pv 1))) (pe_lst pa_nil) (nomark _))))) (pss_one ps_never) pss_nil)
    (pss_cons (ps_set (i := 2) sc_packed.nd rfl (Or.inl rfl) (peJoin K (pe_glob (v := .str _) rfl k_BETWEEN ⟨_, rfl⟩) (pv 0)))
    (pss_one (ps_ret (pe_op (opAdd K) (pe_op (opAdd K) (pe_op (opAdd K) (pe_op (opAdd K) (pe_op (opAdd K) (pe_callTy call_strAny rfl T.n_str (by decide +kernel) (pa_cons (pe_callB (callLen K) rfl T.n_len (by decide +kernel) (pa_cons (pv 2) pa_nil)) pa_nil)) (pe_glob (v := .str _) rfl k_POINT ⟨_, rfl⟩)) (pe_callTy call_strAny rfl T.n_str (by decide +kernel) (pa_cons (pe_call (ok_sum_of T) (hr.mono (by decide)) rfl T.g_sum_of T.F_sum_of.kp (bd_sum_of T) .nil pass0 (pa_cons (pv 2) pa_nil)) pa_nil))) (pe_glob (v := .str _) rfl k_POINT ⟨_, rfl⟩)) (pv 2)) (pe_glob (v := .str _) rfl k_CLOSE ⟨_, rfl⟩))))))
  case s => exact (ss_seq (ss_if (st_or (st_test (se_op s2_eq (se_n sn_len (sa_cons se_var sa_nil)) (se_c (d := .int 0) rv_int))) (st_test (se_op s2_ne (se_of (sf_lc (vs := [1]) (si_str (se_tm1 sm_joinR (se_c (d := .str []) (rv_str (by decide +kernel))) se_var)) (sp_name (by decide)) (st_test (se_op s2_notInS se_var (se_c (d := .str [97, 98, 99, 100, 101, 102, 103, 104, 105, 106, 107, 108, 109, 110, 111, 112, 113, 114, 115, 116, 117, 118, 119, 120, 121, 122, 48, 49, 50, 51, 52, 53, 54, 55, 56, 57, 32, 62, 63, 60, 59]) (rv_str (by decide +kernel))))) se_var)) (se_of (sf_lst sa_nil))))) ss_never ss_next)
    (ss_seq (ss_asg (se_tm1 sm_joinR (se_c (d := .str [124]) (rv_str (by decide +kernel))) se_var) sg_name)
    (ss_ret (se_op s2_add (se_op s2_add (se_op s2_add (se_op s2_add (se_op s2_add (se_n sn_str (sa_cons (se_n sn_len (sa_cons se_var sa_nil)) sa_nil)) (se_c (d := .str [46]) (rv_str (by decide +kernel)))) (se_n sn_str (sa_cons (se_call runB_len (sa_cons se_var sa_nil)) sa_nil))) (se_c (d := .str [46]) (rv_str (by decide +kernel)))) se_var) (se_c (d := .str [33]) (rv_str (by decide +kernel)))))))
theorem bd_number_of (T : Tx w K mg) : Binds K T.d_number_of ["word"] [] := FunD.bindsN T.F_number_of fun _ _ _ _ _ _ us hl => match us, hl with | [_], _ => rfl
theorem ok_number_of (T : Tx w K mg) : FnOk P w K mg base CX0 1 T.a_number_of T.d_number_of ["word"] (spOf K (gx T) 1 AH.F_number) := by
  obtain ⟨t_FIGURES, k_FIGURES⟩ := T.k_FIGURES
  obtain ⟨t_MOST_FIGURES, k_MOST_FIGURES⟩ := T.k_MOST_FIGURES
  refine T.F_number_of.ok (k := 0) sc_number_of sp_len (fun cdv A outer s H vs Q E hr h => ?_)
  refine' ⟨_, PSs.nox ?p, body_ok (N := N_number_of) (n := 1) (b := AH.bNumber) ?s (by decide) h⟩
  case p => exact (pss_cons (ps_if (PW.pt (pw_or (pt_not (pt_chain op_le op_le pe_int (pe_callB (callLen K) rfl T.n_len (by decide +kernel) (pa_cons (pv 0) pa_nil)) (pe_glob (v := .int _) rfl k_MOST_FIGURES ⟨_, rfl⟩))) (pw_or1 (pt_cmpR (opNe K hr.units) (pe_lc (own := [("sign", 1)]) (g := (gName 1)) rfl sc_number_of.nd (pi_str (pv 0)) (blkOk_by (own := [("sign", 1)]) (N := N_number_of) (sc := defScope s_number_of) (by decide +kernel)) (fun _ _ _ _ _ => (pg_name (i := 1) sc_number_of.nd rfl (Or.inl rfl))) (fun _ _ _ _ _ => (pts_one (pt_cmpR op_notIn_sign (pv 1) (pe_glob (v := .str _) rfl k_FIGURES ⟨_, rfl⟩) (by rfl)))) (fun _ _ _ _ _ => (pv 1))) (pe_lst pa_nil) (nomark _))))) (pss_one (ps_ret pe_non)) pss_nil)
    (pss_one (ps_ret (pe_ifExp (PW.pt (pw_or (pt_cmpR (opNe K hr.units) (pe_ix (ixSeq K) (pv 0) pe_int (fun _ _ => rfl)) pe_str (nomark _)) (pw_or1 (pt_cmpR (opEq K hr.units) (pv 0) pe_str (nomark _))))) (pe_callTy call_int_str rfl T.n_int (by decide +kernel) (pa_cons (pv 0) pa_nil)) pe_non))))
  case s => exact (ss_seq (ss_if (st_or (st_not (st_test (se_chain s2_cmp s2_cmp (se_c (d := .int 1) rv_int) (se_n sn_len (sa_cons se_var sa_nil)) (se_c (d := .int 6) rv_int)))) (st_test (se_op s2_ne (se_of (sf_lc (vs := [1]) (si_str se_var) (sp_name (by decide)) (st_test (se_op s2_notInS se_var (se_c (d := .str [48, 49, 50, 51, 52, 53, 54, 55, 56, 57]) (rv_str (by decide +kernel))))) se_var)) (se_of (sf_lst sa_nil))))) (ss_ret (se_c (v := .non) (d := .non) rv_non)) ss_next)
    (ss_ret (se_if (st_or (st_test (se_op s2_ne (se_op s2_ix se_var (se_c (d := .int 0) rv_int)) (se_c (d := .str [48]) (rv_str (by decide +kernel))))) (st_test (se_op s2_eq se_var (se_c (d := .str [48]) (rv_str (by decide +kernel)))))) (se_n sn_intS (sa_cons se_var sa_nil)) (se_c (v := .non) (d := .non) rv_non))))
theorem bd_unpacked (T : Tx w K mg) : Binds K T.d_unpacked ["text"] [] := FunD.bindsN T.F_unpacked fun _ _ _ _ _ _ us hl => match us, hl with | [_], _ => rfl
theorem ok_unpacked (T : Tx w K mg) : FnOk P w K mg base CX0 2 T.a_unpacked T.d_unpacked ["text"] (spOf K (gx T) 1 AH.F_unpacked) := by
  obtain ⟨t_BETWEEN, k_BETWEEN⟩ := T.k_BETWEEN
  obtain ⟨t_CLOSE, k_CLOSE⟩ := T.k_CLOSE
  obtain ⟨t_POINT, k_POINT⟩ := T.k_POINT
  obtain ⟨t_SIGNS, k_SIGNS⟩ := T.k_SIGNS
  refine T.F_unpacked.ok (k := 1) sc_unpacked sp_len (fun cdv A outer s H vs Q E hr h => ?_)
  refine' ⟨_, PSs.nox ?p, body_ok (N := N_unpacked) (n := 1) (b := AH.bUnpacked) ?s (by decide) h⟩
  case p => exact (pss_cons (ps_set (i := 1) sc_unpacked.nd rfl (Or.inl rfl) (pe_split (pv 0) (pe_glob (v := .str _) rfl k_POINT ⟨_, rfl⟩)))
    (pss_cons (ps_if (PW.pt (pw_or (pt_cmpR (opNe K hr.units) (pe_callB (callLen K) rfl T.n_len (by decide +kernel) (pa_cons (pv 1) pa_nil)) pe_int (nomark _)) (pw_or1 (pt_cmpR (opNe K hr.units) (pe_slice (slAny K) (pe_ix (ixSeq K) (pv 1) pe_int (fun _ _ => rfl)) (po_some (pe_un un_neg pe_int)) po_none) (pe_glob (v := .str _) rfl k_CLOSE ⟨_, rfl⟩) (nomark _))))) (pss_one (ps_ret pe_non)) pss_nil)
    (pss_cons (ps_set (i := 2) sc_unpacked.nd rfl (Or.inl rfl) (pe_slice (slAny K) (pe_ix (ixSeq K) (pv 1) pe_int (fun _ _ => rfl)) po_none (po_some (pe_un un_neg pe_int))))
    (pss_cons (ps_if (pt_cmpR (opNe K hr.units) (pe_lc (own := [("sign", 3)]) (g := (gName 3)) rfl sc_unpacked.nd (pi_str (pv 2)) (blkOk_by (own := [("sign", 3)]) (N := N_unpacked) (sc := defScope s_unpacked) (by decide +kernel)) (fun _ _ _ _ _ => (pg_name (i := 3) sc_unpacked.nd rfl (Or.inl rfl))) (fun _ _ _ _ _ => (pts_one (pt_cmpR op_notIn_sign (pv 3) (pe_op (opAdd K) (pe_glob (v := .str _) rfl k_SIGNS ⟨_, rfl⟩) (pe_glob (v := .str _) rfl k_BETWEEN ⟨_, rfl⟩)) (by rfl)))) (fun _ _ _ _ _ => (pv 3))) (pe_lst pa_nil) (nomark _)) (pss_one (ps_ret pe_non)) pss_nil)
    (pss_cons (ps_if (PW.pt (pw_or (pt_cmpR (opNe K hr.units) (pe_call (ok_number_of T) (hr.mono (by decide)) rfl T.g_number_of T.F_number_of.kp (bd_number_of T) .nil pass0 (pa_cons (pe_ix (ixSeq K) (pv 1) pe_int (fun _ _ => rfl)) pa_nil)) (pe_callB (callLen K) rfl T.n_len (by decide +kernel) (pa_cons (pv 2) pa_nil)) (nomark _)) (pw_or1 (pt_cmpR (opNe K hr.units) (pe_call (ok_number_of T) (hr.mono (by decide)) rfl T.g_number_of T.F_number_of.kp (bd_number_of T) .nil pass0 (pa_cons (pe_ix (ixSeq K) (pv 1) pe_int (fun _ _ => rfl)) pa_nil)) (pe_call (ok_sum_of T) (hr.mono (by decide)) rfl T.g_sum_of T.F_sum_of.kp (bd_sum_of T) .nil pass0 (pa_cons (pv 2) pa_nil)) (nomark _))))) (pss_one (ps_ret pe_non)) pss_nil)
    (pss_one (ps_ret (pe_split (pv 2) (pe_glob (v := .str _) rfl k_BETWEEN ⟨_, rfl⟩)))))))))
  case s => exact (ss_seq (ss_asg (se_of (sf_tm1 smf_split se_var (se_c (d := .str [46]) (rv_str (by decide +kernel))))) sg_name)
    (ss_seq (ss_if (st_or (st_test (se_op s2_ne (se_n sn_len (sa_cons se_var sa_nil)) (se_c (d := .int 3) rv_int))) (st_test (se_op s2_ne (se_sl s3_sl (se_op s2_ix se_var (se_c (d := .int 2) rv_int)) (so_some (se_un s1_neg (se_c (d := .int 1) rv_int))) so_none) (se_c (d := .str [33]) (rv_str (by decide +kernel)))))) (ss_ret (se_c (v := .non) (d := .non) rv_non)) ss_next)
    (ss_seq (ss_asg (se_sl s3_sl (se_op s2_ix se_var (se_c (d := .int 2) rv_int)) so_none (so_some (se_un s1_neg (se_c (d := .int 1) rv_int)))) sg_name)
    (ss_seq (ss_if (st_test (se_op s2_ne (se_of (sf_lc (vs := [3]) (si_str se_var) (sp_name (by decide)) (st_test (se_op s2_notInS se_var (se_op s2_add (se_c (d := .str [97, 98, 99, 100, 101, 102, 103, 104, 105, 106, 107, 108, 109, 110, 111, 112, 113, 114, 115, 116, 117, 118, 119, 120, 121, 122, 48, 49, 50, 51, 52, 53, 54, 55, 56, 57, 32, 62, 63, 60, 59]) (rv_str (by decide +kernel))) (se_c (d := .str [124]) (rv_str (by decide +kernel)))))) se_var)) (se_of (sf_lst sa_nil)))) (ss_ret (se_c (v := .non) (d := .non) rv_non)) ss_next)
    (ss_seq (ss_if (st_or (st_test (se_op s2_ne (se_call runB_len (sa_cons (se_op s2_ix se_var (se_c (d := .int 0) rv_int)) sa_nil)) (se_n sn_len (sa_cons se_var sa_nil)))) (st_test (se_op s2_ne (se_call runB_len (sa_cons (se_op s2_ix se_var (se_c (d := .int 1) rv_int)) sa_nil)) (se_call runB_len (sa_cons se_var sa_nil))))) (ss_ret (se_c (v := .non) (d := .non) rv_non)) ss_next)
    (ss_retF (sf_tm1 smf_split se_var (se_c (d := .str [124]) (rv_str (by decide +kernel))))))))))
theorem bd_Look___init__ (T : Tx w K mg) : Binds K T.d_Look___init__ ["self", "name", "session", "pane", "wide", "high"] [] := FunD.bindsN T.F_Look___init__ fun _ _ _ _ _ _ us hl => match us, hl with | [_, _, _, _, _, _], _ => rfl
theorem ok_Look___init__ (T : Tx w K mg) : FnOk P w K mg base CX0 3 T.a_Look___init__ T.d_Look___init__ ["self", "name", "session", "pane", "wide", "high"] (spOf K (gx T) 6 AH.F_Look___init__) := by
  obtain ⟨t_MOST_NAME, k_MOST_NAME⟩ := T.k_MOST_NAME
  obtain ⟨t_MOST_PANES, k_MOST_PANES⟩ := T.k_MOST_PANES
  obtain ⟨t_MOST_SESSION, k_MOST_SESSION⟩ := T.k_MOST_SESSION
  refine T.F_Look___init__.ok (k := 2) sc_Look___init__ sp_len (fun cdv A outer s H vs Q E hr h => ?_)
  refine' ⟨_, PSs.nox ?p, body_ok (N := N_Look___init__) (n := 6) (b := AH.b_Look___init__) ?s (by decide) h⟩
  case p => exact (pss_cons (ps_set (i := 6) sc_Look___init__.nd rfl (Or.inl rfl) (pe_and (pe_call (ok_is_number T) (hr.mono (by decide)) rfl T.g_is_number T.F_is_number.kp (bd_is_number T) .nil pass0 (pa_cons (pv 1) (pa_cons pe_int (pa_cons (pe_glob (v := .int _) rfl k_MOST_NAME ⟨_, rfl⟩) pa_nil)))) (pe_one (pe_call (ok_is_number T) (hr.mono (by decide)) rfl T.g_is_number T.F_is_number.kp (bd_is_number T) .nil pass0 (pa_cons (pv 2) (pa_cons pe_int (pa_cons (pe_glob (v := .int _) rfl k_MOST_SESSION ⟨_, rfl⟩) pa_nil)))))))
    (pss_cons (ps_if (PW.pt (pw_or (pt_not (pt_val (pv 6))) (pw_or1 (pt_not (pt_val (pe_call (ok_is_number T) (hr.mono (by decide)) rfl T.g_is_number T.F_is_number.kp (bd_is_number T) .nil pass0 (pa_cons (pv 3) (pa_cons pe_int (pa_cons (pe_op op_sub (pe_glob (v := .int _) rfl k_MOST_PANES ⟨_, rfl⟩) pe_int) pa_nil))))))))) (pss_one ps_never) pss_nil)
    (pss_cons (ps_expr (pe_call (ok_need_size T) (hr.mono (by decide)) rfl T.g_need_size T.F_need_size.kp (bd_need_size T) .nil pass0 (pa_cons (pv 4) (pa_cons (pv 5) pa_nil))))
    (pss_cons (psFld K (pv 0) (pe_tup (pa_cons (pv 1) (pa_cons (pv 2) (pa_cons (pv 3) pa_nil)))))
    (pss_cons (psFld K (pv 0) (pe_tup (pa_cons (pv 4) (pa_cons (pv 5) pa_nil))))
    (pss_cons (psFld K (pv 0) (pe_lst pa_nil))
    (pss_cons (psFld K (pv 0) pe_str)
    (pss_cons (psFld K (pv 0) pe_non)
    (pss_cons (psFld K (pv 0) pe_int)
    (pss_cons (psFld K (pv 0) pe_str)
    (pss_cons (psFld K (pv 0) pe_bl)
    (pss_one (psFld K (pv 0) pe_bl)))))))))))))
  case s => exact (ss_seq (ss_asg (se_and (se_call runB_len (sa_cons se_var (sa_cons (se_c (d := .int 0) rv_int) (sa_cons (se_c (d := .int 3) rv_int) sa_nil)))) (se_call runB_len (sa_cons se_var (sa_cons (se_c (d := .int 1) rv_int) (sa_cons (se_c (d := .int 100000) rv_int) sa_nil))))) sg_name)
    (ss_seq (ss_if (st_or (st_not (st_B se_var)) (st_not (st_B (se_call runB_len (sa_cons se_var (sa_cons (se_c (d := .int 0) rv_int) (sa_cons (se_op s2_sub (se_c (d := .int 3) rv_int) (se_c (d := .int 1) rv_int)) sa_nil))))))) ss_never ss_next)
    (ss_seq (ss_do (se_call runB_len (sa_cons se_var (sa_cons se_var sa_nil))))
    (ss_seq (ss_fld (c := 1) (i := 0) rfl T.cl_Look T.na_Look_head nd_Look lz_Look se_var (se_tup (sa_cons se_var (sa_cons se_var (sa_cons se_var sa_nil)))))
    (ss_seq (ss_fld (c := 1) (i := 1) rfl T.cl_Look T.na_Look_size nd_Look lz_Look se_var (se_tup (sa_cons se_var (sa_cons se_var sa_nil))))
    (ss_seq (ss_fld (c := 1) (i := 2) rfl T.cl_Look T.na_Look_kept nd_Look lz_Look se_var (se_of (sf_lst sa_nil)))
    (ss_seq (ss_fld (c := 1) (i := 3) rfl T.cl_Look T.na_Look_text nd_Look lz_Look se_var (se_c (d := .str []) (rv_str (by decide +kernel))))
    (ss_seq (ss_fld (c := 1) (i := 4) rfl T.cl_Look T.na_Look_version nd_Look lz_Look se_var (se_c (v := .non) (d := .non) rv_non))
    (ss_seq (ss_fld (c := 1) (i := 5) rfl T.cl_Look T.na_Look_first nd_Look lz_Look se_var (se_c (d := .int 0) rv_int))
    (ss_seq (ss_fld (c := 1) (i := 6) rfl T.cl_Look T.na_Look_signs nd_Look lz_Look se_var (se_c (d := .str []) (rv_str (by decide +kernel))))
    (ss_seq (ss_fld (c := 1) (i := 7) rfl T.cl_Look T.na_Look_gone nd_Look lz_Look se_var (se_c (v := .bl false) (d := .bl false) rv_bl))
    (ss_fld (c := 1) (i := 8) rfl T.cl_Look T.na_Look_past nd_Look lz_Look se_var (se_c (v := .bl false) (d := .bl false) rv_bl)))))))))))))
theorem bd_Look_press (T : Tx w K mg) : Binds K T.d_Look_press ["self", "signs"] [] := FunD.bindsN T.F_Look_press fun _ _ _ _ _ _ us hl => match us, hl with | [_, _], _ => rfl
theorem ok_Look_press (T : Tx w K mg) : FnOk P w K mg base (L2.CX P w) 2 T.a_Look_press T.d_Look_press ["self", "signs"] (spX K (gx T) 2 F_Look_press) := by
  refine T.F_Look_press.ok (k := 1) sc_Look_press spX_len (fun cdv A outer s H vs Q E hr h => ?_)
  refine' ⟨_, ?p, bodyX_ok (N := N_Look_press) (n := 2) (b := b_Look_press) ?s (by decide) h⟩
  case p => exact (pss_cons (ps_if (PW.pt (pw_or (pt_val (peFld K (pv 0))) (pw_or1 (pt_val (peFld K (pv 0)))))) (pss_one (ps_raise rfl (takes_of rfl rfl rfl rfl) (pmk_own PySem.F.excBase_ValueError T.q_NoLook.1 T.gx_NoLook T.q_NoLook.2.1 (raises_own T.q_NoLook.2.2.1 T.q_NoLook.2.2.2) rfl))) pss_nil)
    (pss_cons (ps_expr (pe_call (ok_need_signs T) (hr.mono (by decide)) rfl T.g_need_signs T.F_need_signs.kp (bd_need_signs T) .nil pass0 (pa_cons (pv 1) pa_nil)))
    (pss_one (psFld K (pv 0) (pe_op (opAdd K) (peFld K (pv 0)) (pv 1))))))
  case s => exact (sx_seq (sx_if (st_or (st_B (se_fld (c := 1) (i := 7) rfl T.cl_Look T.na_Look_gone nd_Look se_var)) (st_B (se_fld (c := 1) (i := 8) rfl T.cl_Look T.na_Look_past nd_Look se_var))) (sx_raise rfl) (sx_of ss_next))
    (sx_seq (sx_of (ss_do (se_call runB_len (sa_cons se_var sa_nil))))
    (sx_of (ss_fld (c := 1) (i := 6) rfl T.cl_Look T.na_Look_signs nd_Look lz_Look se_var (se_op s2_add (se_fld (c := 1) (i := 6) rfl T.cl_Look T.na_Look_signs nd_Look se_var) se_var)))))
theorem bd_Look_press_o (T : Tx w K mg) : Binds K T.d_Look_press_o ["self", "signs"] [] := FunD.bindsN T.F_Look_press_o fun _ _ _ _ _ _ us hl => match us, hl with | [_, _], _ => rfl
theorem ok_Look_press_o (T : Tx w K mg) : FnOk P w K mg base CX0 2 T.a_Look_press_o T.d_Look_press_o ["self", "signs"] (spOf K (gx T) 2 F_Look_press_o) := by
  refine T.F_Look_press_o.ok (k := 1) sc_Look_press_o sp_len (fun cdv A outer s H vs Q E hr h => ?_)
  refine' ⟨_, PSs.nox ?p, body_ok (N := N_Look_press_o) (n := 2) (b := b_Look_press_o) ?s (by decide) h⟩
  case p => exact (pss_cons (ps_if (PW.pt (pw_or (pt_val (peFld K (pv 0))) (pw_or1 (pt_val (peFld K (pv 0)))))) (pss_one ps_never) pss_nil)
    (pss_cons (ps_expr (pe_call (ok_need_signs T) (hr.mono (by decide)) rfl T.g_need_signs T.F_need_signs.kp (bd_need_signs T) .nil pass0 (pa_cons (pv 1) pa_nil)))
    (pss_one (psFld K (pv 0) (pe_op (opAdd K) (peFld K (pv 0)) (pv 1))))))
  case s => exact (ss_seq (ss_if (st_or (st_B (se_fld (c := 1) (i := 7) rfl T.cl_Look T.na_Look_gone nd_Look se_var)) (st_B (se_fld (c := 1) (i := 8) rfl T.cl_Look T.na_Look_past nd_Look se_var))) ss_never ss_next)
    (ss_seq (ss_do (se_call runB_len (sa_cons se_var sa_nil)))
    (ss_fld (c := 1) (i := 6) rfl T.cl_Look T.na_Look_signs nd_Look lz_Look se_var (se_op s2_add (se_fld (c := 1) (i := 6) rfl T.cl_Look T.na_Look_signs nd_Look se_var) se_var))))
theorem bd_Look_letters (T : Tx w K mg) : Binds K T.d_Look_letters ["self"] [] := FunD.bindsN T.F_Look_letters fun _ _ _ _ _ _ us hl => match us, hl with | [_], _ => rfl
theorem ok_Look_letters (T : Tx w K mg) : FnOk P w K mg base CX0 3 T.a_Look_letters T.d_Look_letters ["self"] (spOf K (gx T) 1 AH.F_Look_letters) := by
  obtain ⟨t_NONE, k_NONE⟩ := T.k_NONE
  refine T.F_Look_letters.ok (k := 2) sc_Look_letters sp_len (fun cdv A outer s H vs Q E hr h => ?_)
  refine' ⟨_, PSs.nox ?p, body_ok (N := N_Look_letters) (n := 1) (b := AH.b_Look_letters) ?s (by decide) h⟩
  case p => exact (pss_cons (ps_if (pt_val (peFld K (pv 0))) (pss_one (ps_ret (pe_lst pa_nil))) pss_nil)
    (pss_cons (ps_setLc (i := 1) (own := [("part", 2)]) (g := (gName 2)) rfl sc_Look_letters.nd rfl rfl (sw_true rfl rfl rfl (by decide +kernel)) (piTup K (peFld K (pv 0))) (blkOk_by (own := [("part", 2)]) (N := N_Look_letters) (sc := defScope s_Look_letters) (by decide +kernel)) (fun _ _ _ _ _ => (pg_name (i := 2) sc_Look_letters.nd rfl (Or.inl rfl))) (fun _ _ _ _ _ => pts_nil) (fun _ _ _ _ _ => (pe_callTy call_strAny rfl T.n_str (by decide +kernel) (pa_cons (pv 2) pa_nil))))
    (pss_cons (ps_if (pt_val (peFld K (pv 0))) (pss_one (ps_ret (pe_lst (pa_cons (pe_call (ok_packed T) (hr.mono (by decide)) rfl T.g_packed T.F_packed.kp (bd_packed T) .nil pass0 (pa_cons (pe_op op_cat (pe_lst (pa_cons pe_str pa_nil)) (pv 1)) pa_nil)) pa_nil)))) pss_nil)
    (pss_cons (ps_set (i := 3) sc_Look_letters.nd rfl (Or.inl rfl) (pe_ifExp (pt_cmp (pc_isN (peFld K (pv 0))) rfl) (pe_glob (v := .str _) rfl k_NONE ⟨_, rfl⟩) (pe_callTy call_strAny rfl T.n_str (by decide +kernel) (pa_cons (peFld K (pv 0)) pa_nil))))
    (pss_one (ps_ret (pe_lst (pa_cons (pe_call (ok_packed T) (hr.mono (by decide)) rfl T.g_packed T.F_packed.kp (bd_packed T) .nil pass0 (pa_cons (pe_op op_cat (pe_op op_cat (pe_lst (pa_cons pe_str pa_nil)) (pv 1)) (pe_lst (pa_cons (pv 3) (pa_cons (pe_callTy call_strAny rfl T.n_str (by decide +kernel) (pa_cons (peFld K (pv 0)) pa_nil)) (pa_cons (pe_slice (slAny K) (peFld K (pv 0)) po_none (po_some pe_int)) pa_nil))))) pa_nil)) pa_nil))))))))
  case s => exact (ss_seq (ss_if (st_B (se_fld (c := 1) (i := 8) rfl T.cl_Look T.na_Look_past nd_Look se_var)) (ss_retF (sf_lst sa_nil)) ss_next)
    (ss_seq (ss_asg (se_of (sf_lc (vs := [2]) (si_tup (se_fld (c := 1) (i := 0) rfl T.cl_Look T.na_Look_head nd_Look se_var)) (sp_name (by decide)) st_yes (se_n sn_str (sa_cons se_var sa_nil)))) sg_name)
    (ss_seq (ss_if (st_B (se_fld (c := 1) (i := 7) rfl T.cl_Look T.na_Look_gone nd_Look se_var)) (ss_retF (sf_lst (sa_cons (se_call runB_len (sa_cons (se_of (sf_op s2f_cat (se_of (sf_lst (sa_cons (se_c (d := .str [103, 111, 110, 101]) (rv_str (by decide +kernel))) sa_nil))) se_var)) sa_nil)) sa_nil))) ss_next)
    (ss_seq (ss_asg (se_if (st_B (se_isN (se_fld (c := 1) (i := 4) rfl T.cl_Look T.na_Look_version nd_Look se_var))) (se_c (d := .str [63]) (rv_str (by decide +kernel))) (se_n sn_str (sa_cons (se_fld (c := 1) (i := 4) rfl T.cl_Look T.na_Look_version nd_Look se_var) sa_nil))) sg_name)
    (ss_retF (sf_lst (sa_cons (se_call runB_len (sa_cons (se_of (sf_op s2f_cat (se_of (sf_op s2f_cat (se_of (sf_lst (sa_cons (se_c (d := .str [97, 116]) (rv_str (by decide +kernel))) sa_nil))) se_var)) (se_of (sf_lst (sa_cons se_var (sa_cons (se_n sn_str (sa_cons (se_fld (c := 1) (i := 5) rfl T.cl_Look T.na_Look_first nd_Look se_var) sa_nil)) (sa_cons (se_sl s3_sl (se_fld (c := 1) (i := 6) rfl T.cl_Look T.na_Look_signs nd_Look se_var) so_none (so_some (se_c (d := .int 20) rv_int))) sa_nil))))))) sa_nil)) sa_nil)))))))
theorem bd_Look_take (T : Tx w K mg) : Binds K T.d_Look_take ["self", "number", "fields"] [] := FunD.bindsN T.F_Look_take fun _ _ _ _ _ _ us hl => match us, hl with | [_, _, _], _ => rfl
theorem ok_Look_take (T : Tx w K mg) : FnOk P w K mg base CX0 2 T.a_Look_take T.d_Look_take ["self", "number", "fields"] (spOf K (gx T) 3 AH.F_Look_take) := by
  refine T.F_Look_take.ok (k := 1) sc_Look_take sp_len (fun cdv A outer s H vs Q E hr h => ?_)
  refine' ⟨_, PSs.nox ?p, body_ok (N := N_Look_take) (n := 3) (b := AH.b_Look_take) ?s (by decide) h⟩
  case p => exact (pss_one (ps_for PassesOwn.never rfl (pi_range3 rfl T.n_range (pa_cons pe_int (pa_cons (pe_callB (callLen K) rfl T.n_len (by decide +kernel) (pa_cons (pv 2) pa_nil)) (pa_cons pe_int pa_nil)))) (pg_name (i := 3) sc_Look_take.nd rfl (Or.inl rfl)) (pss_cons (ps_if (pt_cmpR (opEq K hr.units) (peFld K (pv 0)) (pv 1) (nomark _)) (pss_cons (ps_asg (pe_call (ok_changed T) (hr.mono (by decide)) rfl T.g_changed T.F_changed.kp (bd_changed T) .nil pass0 (pa_cons (peFld K (pv 0)) (pa_cons (peFld K (pv 0)) (pa_cons (pe_tup (pa_cons (pe_ix (ixSeq K) (pv 2) (pv 3) (fun _ _ => rfl)) (pa_cons (pe_ix (ixSeq K) (pv 2) (pe_op (opAdd K) (pv 3) pe_int) (fun _ _ => rfl)) pa_nil))) pa_nil)))) (pgTup K rfl (pgs_cons (pg_fld K (pv 0)) (pgs_cons (pg_fld K (pv 0)) pgs_nil))))
    (pss_one (psFld K (pv 0) (pe_op (opAdd K) (pv 1) pe_int)))) pss_nil)
    (pss_one (ps_set (i := 1) sc_Look_take.nd rfl (Or.inl rfl) (pe_op (opAdd K) (pv 1) pe_int))))))
  case s => exact (ss_for (si_r3 (sa_cons (se_c (d := .int 0) rv_int) (sa_cons (se_n sn_len (sa_cons se_var sa_nil)) (sa_cons (se_c (d := .int 2) rv_int) sa_nil)))) sg_name (ss_seq (ss_if (st_test (se_op s2_eq (se_fld (c := 1) (i := 4) rfl T.cl_Look T.na_Look_version nd_Look se_var) se_var)) (ss_seq (ss_asg (se_call runB_len (sa_cons (se_fld (c := 1) (i := 2) rfl T.cl_Look T.na_Look_kept nd_Look se_var) (sa_cons (se_fld (c := 1) (i := 3) rfl T.cl_Look T.na_Look_text nd_Look se_var) (sa_cons (se_tup (sa_cons (se_op s2_ix se_var se_var) (sa_cons (se_op s2_ix se_var (se_op s2_add se_var (se_c (d := .int 1) rv_int))) sa_nil))) sa_nil)))) (sg_tup (sgs_cons (sg_fld (c := 1) (i := 2) rfl T.cl_Look T.na_Look_kept nd_Look lz_Look se_var) (sgs_cons (sg_fld (c := 1) (i := 3) rfl T.cl_Look T.na_Look_text nd_Look lz_Look se_var) sgs_nil))))
    (ss_fld (c := 1) (i := 4) rfl T.cl_Look T.na_Look_version nd_Look lz_Look se_var (se_op s2_add se_var (se_c (d := .int 1) rv_int)))) ss_next)
    (ss_asg (se_op s2_add se_var (se_c (d := .int 1) rv_int)) sg_name)))
theorem bd_Look_hear (T : Tx w K mg) : Binds K T.d_Look_hear ["self", "text"] [] := FunD.bindsN T.F_Look_hear fun _ _ _ _ _ _ us hl => match us, hl with | [_, _], _ => rfl
theorem ok_Look_hear (T : Tx w K mg) : FnOk P w K mg base CX0 3 T.a_Look_hear T.d_Look_hear ["self", "text"] (spOf K (gx T) 2 AH.F_Look_hear) := by
  refine T.F_Look_hear.ok (k := 2) sc_Look_hear sp_len (fun cdv A outer s H vs Q E hr h => ?_)
  refine' ⟨_, PSs.nox ?p, body_ok (N := N_Look_hear) (n := 2) (b := AH.b_Look_hear) ?s (by decide) h⟩
  case p => exact (pss_cons (ps_set (i := 2) sc_Look_hear.nd rfl (Or.inl rfl) (pe_call (ok_unpacked T) (hr.mono (by decide)) rfl T.g_unpacked T.F_unpacked.kp (bd_unpacked T) .nil pass0 (pa_cons (pv 1) pa_nil)))
    (pss_cons (ps_if (PW.pt (pw_or (pt_cmp (pc_isN (pv 2)) rfl) (pw_or (pt_cmpR (opNotIn K) (pe_ix (ixSeq K) (pv 2) pe_int (fun _ _ => rfl)) (pe_tup (pa_cons pe_str (pa_cons pe_str pa_nil))) (by rfl)) (pw_or1 (pt_cmpR (opNe K hr.units) (pe_call (ok_number_of T) (hr.mono (by decide)) rfl T.g_number_of T.F_number_of.kp (bd_number_of T) .nil pass0 (pa_cons (pe_ix (ixSeq K) (pv 2) pe_int (fun _ _ => rfl)) pa_nil)) (pe_ix (ixSeq K) (peFld K (pv 0)) pe_int (fun _ _ => rfl)) (nomark _)))))) (pss_one ps_retN) pss_nil)
    (pss_cons (ps_set (i := 3) sc_Look_hear.nd rfl (Or.inl rfl) (pe_call (ok_number_of T) (hr.mono (by decide)) rfl T.g_number_of T.F_number_of.kp (bd_number_of T) .nil pass0 (pa_cons (pe_ix (ixSeq K) (pv 2) pe_int (fun _ _ => rfl)) pa_nil)))
    (pss_cons (ps_if (pt_cmpR (opNe K hr.units) (pv 3) (pe_ix (ixSeq K) (peFld K (pv 0)) pe_int (fun _ _ => rfl)) (nomark _)) (pss_cons (psFld K (pv 0) (pe_or (peFld K (pv 0)) (pe_one (pe_cmpR op_gt (pv 3) (pe_ix (ixSeq K) (peFld K (pv 0)) pe_int (fun _ _ => rfl)) (nomark _)))))
    (pss_one ps_retN)) pss_nil)
    (pss_cons (ps_set (i := 4) sc_Look_hear.nd rfl (Or.inl rfl) (pe_call (ok_number_of T) (hr.mono (by decide)) rfl T.g_number_of T.F_number_of.kp (bd_number_of T) .nil pass0 (pa_cons (pe_ix (ixSeq K) (pv 2) pe_int (fun _ _ => rfl)) pa_nil)))
    (pss_cons (ps_if (pt_cmpR op_gt (pv 4) (peFld K (pv 0)) (nomark _)) (pss_cons (psFld K (pv 0) (pe_slice (slAny K) (peFld K (pv 0)) (po_some (pe_op op_sub (pv 4) (peFld K (pv 0)))) po_none))
    (pss_one (psFld K (pv 0) (pv 4)))) pss_nil)
    (pss_one (ps_if (pt_cmpR (opEq K hr.units) (pe_ix (ixSeq K) (pv 2) pe_int (fun _ _ => rfl)) pe_str (nomark _)) (pss_one (ps_expr (pe_meth (pv 0) T.cl_Look T.me_Look_take (ok_Look_take T) (hr.mono (by decide)) (bd_Look_take T) .nil pass0 (pa_cons (pe_call (ok_number_of T) (hr.mono (by decide)) rfl T.g_number_of T.F_number_of.kp (bd_number_of T) .nil pass0 (pa_cons (pe_ix (ixSeq K) (pv 2) pe_int (fun _ _ => rfl)) pa_nil)) (pa_cons (pe_slice (slList K) (pv 2) (po_some pe_int) po_none) pa_nil))))) (pss_one (ps_if (PW.pt (pw_or (pt_cmp (pc_isN (peFld K (pv 0))) rfl) (pw_or1 (pt_cmpR op_gt (pe_call (ok_number_of T) (hr.mono (by decide)) rfl T.g_number_of T.F_number_of.kp (bd_number_of T) .nil pass0 (pa_cons (pe_ix (ixSeq K) (pv 2) pe_int (fun _ _ => rfl)) pa_nil)) (peFld K (pv 0)) (nomark _))))) (pss_cons (psFld K (pv 0) (pe_call (ok_number_of T) (hr.mono (by decide)) rfl T.g_number_of T.F_number_of.kp (bd_number_of T) .nil pass0 (pa_cons (pe_ix (ixSeq K) (pv 2) pe_int (fun _ _ => rfl)) pa_nil)))
    (pss_cons (psFld K (pv 0) (pe_ix (ixSeq K) (pv 2) pe_int (fun _ _ => rfl)))
    (pss_one (psFld K (pv 0) (pe_slice (slList K) (pv 2) (po_some pe_int) po_none))))) pss_nil))))))))))
  case s => exact (ss_seq (ss_asg (se_call runB_len (sa_cons se_var sa_nil)) sg_name)
    (ss_seq (ss_if (st_or (st_B (se_isN se_var)) (st_or (st_test (se_op s2_in (se_op s2_ix se_var (se_c (d := .int 0) rv_int)) (se_tup (sa_cons (se_c (d := .str [115, 111, 109, 101]) (rv_str (by decide +kernel))) (sa_cons (se_c (d := .str [119, 104, 111, 108, 101]) (rv_str (by decide +kernel))) sa_nil))))) (st_test (se_op s2_ne (se_call runB_len (sa_cons (se_op s2_ix se_var (se_c (d := .int 1) rv_int)) sa_nil)) (se_op s2_ix (se_fld (c := 1) (i := 0) rfl T.cl_Look T.na_Look_head nd_Look se_var) (se_c (d := .int 0) rv_int)))))) ss_retN ss_next)
    (ss_seq (ss_asg (se_call runB_len (sa_cons (se_op s2_ix se_var (se_c (d := .int 2) rv_int)) sa_nil)) sg_name)
    (ss_seq (ss_if (st_test (se_op s2_ne se_var (se_op s2_ix (se_fld (c := 1) (i := 0) rfl T.cl_Look T.na_Look_head nd_Look se_var) (se_c (d := .int 1) rv_int)))) (ss_seq (ss_fld (c := 1) (i := 8) rfl T.cl_Look T.na_Look_past nd_Look lz_Look se_var (se_or (se_fld (c := 1) (i := 8) rfl T.cl_Look T.na_Look_past nd_Look se_var) (se_op s2_cmp se_var (se_op s2_ix (se_fld (c := 1) (i := 0) rfl T.cl_Look T.na_Look_head nd_Look se_var) (se_c (d := .int 1) rv_int)))))
    ss_retN) ss_next)
    (ss_seq (ss_asg (se_call runB_len (sa_cons (se_op s2_ix se_var (se_c (d := .int 3) rv_int)) sa_nil)) sg_name)
    (ss_seq (ss_if (st_test (se_op s2_cmp se_var (se_fld (c := 1) (i := 5) rfl T.cl_Look T.na_Look_first nd_Look se_var))) (ss_seq (ss_fld (c := 1) (i := 6) rfl T.cl_Look T.na_Look_signs nd_Look lz_Look se_var (se_sl s3_sl (se_fld (c := 1) (i := 6) rfl T.cl_Look T.na_Look_signs nd_Look se_var) (so_some (se_op s2_sub se_var (se_fld (c := 1) (i := 5) rfl T.cl_Look T.na_Look_first nd_Look se_var))) so_none))
    (ss_fld (c := 1) (i := 5) rfl T.cl_Look T.na_Look_first nd_Look lz_Look se_var se_var)) ss_next)
    (ss_if (st_test (se_op s2_eq (se_op s2_ix se_var (se_c (d := .int 0) rv_int)) (se_c (d := .str [115, 111, 109, 101]) (rv_str (by decide +kernel))))) (ss_do (se_meth (c := 1) rfl nm_Look_take runB_len se_var (sa_cons (se_call runB_len (sa_cons (se_op s2_ix se_var (se_c (d := .int 4) rv_int)) sa_nil)) (sa_cons (se_of (sf_sl s3f_sl se_var (so_some (se_c (d := .int 5) rv_int)) so_none)) sa_nil)))) (ss_if (st_or (st_B (se_isN (se_fld (c := 1) (i := 4) rfl T.cl_Look T.na_Look_version nd_Look se_var))) (st_test (se_op s2_cmp (se_call runB_len (sa_cons (se_op s2_ix se_var (se_c (d := .int 4) rv_int)) sa_nil)) (se_fld (c := 1) (i := 4) rfl T.cl_Look T.na_Look_version nd_Look se_var)))) (ss_seq (ss_fld (c := 1) (i := 4) rfl T.cl_Look T.na_Look_version nd_Look lz_Look se_var (se_call runB_len (sa_cons (se_op s2_ix se_var (se_c (d := .int 4) rv_int)) sa_nil)))
    (ss_seq (ss_fld (c := 1) (i := 3) rfl T.cl_Look T.na_Look_text nd_Look lz_Look se_var (se_op s2_ix se_var (se_c (d := .int 5) rv_int)))
    (ss_fld (c := 1) (i := 2) rfl T.cl_Look T.na_Look_kept nd_Look lz_Look se_var (se_of (sf_sl s3f_sl se_var (so_some (se_c (d := .int 6) rv_int)) so_none))))) ss_next))))))))
theorem bd_Look_waiting (T : Tx w K mg) : Binds K T.d_Look_waiting ["self"] [] := FunD.bindsN T.F_Look_waiting fun _ _ _ _ _ _ us hl => match us, hl with | [_], _ => rfl
theorem ok_Look_waiting (T : Tx w K mg) : FnOk P w K mg base CX0 1 T.a_Look_waiting T.d_Look_waiting ["self"] (spOf K (gx T) 1 AH.F_Look_waiting) := by
  refine T.F_Look_waiting.ok (k := 0) sc_Look_waiting sp_len (fun cdv A outer s H vs Q E hr h => ?_)
  refine' ⟨_, PSs.nox ?p, body_ok (N := N_Look_waiting) (n := 1) (b := AH.b_Look_waiting) ?s (by decide) h⟩
  case p => exact (pss_one (ps_ret (pe_callB (callLen K) rfl T.n_len (by decide +kernel) (pa_cons (peFld K (pv 0)) pa_nil))))
  case s => exact (ss_ret (se_n sn_len (sa_cons (se_fld (c := 1) (i := 6) rfl T.cl_Look T.na_Look_signs nd_Look se_var) sa_nil)))
theorem bd_Look_over (T : Tx w K mg) : Binds K T.d_Look_over ["self"] [] := FunD.bindsN T.F_Look_over fun _ _ _ _ _ _ us hl => match us, hl with | [_], _ => rfl
theorem ok_Look_over (T : Tx w K mg) : FnOk P w K mg base CX0 1 T.a_Look_over T.d_Look_over ["self"] (spOf K (gx T) 1 AH.F_Look_over) := by
  refine T.F_Look_over.ok (k := 0) sc_Look_over sp_len (fun cdv A outer s H vs Q E hr h => ?_)
  refine' ⟨_, PSs.nox ?p, body_ok (N := N_Look_over) (n := 1) (b := AH.b_Look_over) ?s (by decide) h⟩
  case p => exact (pss_one (ps_ret (peFld K (pv 0))))
  case s => exact (ss_ret (se_fld (c := 1) (i := 8) rfl T.cl_Look T.na_Look_past nd_Look se_var))
theorem bd_Seat___init__ (T : Tx w K mg) : Binds K T.d_Seat___init__ ["self", "session", "pane"] [] := FunD.bindsN T.F_Seat___init__ fun _ _ _ _ _ _ us hl => match us, hl with | [_, _, _], _ => rfl
theorem ok_Seat___init__ (T : Tx w K mg) : FnOk P w K mg base CX0 1 T.a_Seat___init__ T.d_Seat___init__ ["self", "session", "pane"] (spOf K (gx T) 3 AH.F_Seat___init__) := by
  refine T.F_Seat___init__.ok (k := 0) sc_Seat___init__ sp_len (fun cdv A outer s H vs Q E hr h => ?_)
  refine' ⟨_, PSs.nox ?p, body_ok (N := N_Seat___init__) (n := 3) (b := AH.b_Seat___init__) ?s (by decide) h⟩
  case p => exact (pss_cons (psFld K (pv 0) (pv 1))
    (pss_cons (psFld K (pv 0) (pv 2))
    (pss_cons (psFld K (pv 0) pe_int)
    (pss_cons (psFld K (pv 0) pe_non)
    (pss_one (psFld K (pv 0) pe_bl))))))
  case s => exact (ss_seq (ss_fld (c := 2) (i := 0) rfl T.cl_Seat T.na_Seat_session nd_Seat lz_Seat se_var se_var)
    (ss_seq (ss_fld (c := 2) (i := 1) rfl T.cl_Seat T.na_Seat_pane nd_Seat lz_Seat se_var se_var)
    (ss_seq (ss_fld (c := 2) (i := 2) rfl T.cl_Seat T.na_Seat_done nd_Seat lz_Seat se_var (se_c (d := .int 0) rv_int))
    (ss_seq (ss_fld (c := 2) (i := 3) rfl T.cl_Seat T.na_Seat_knows nd_Seat lz_Seat se_var (se_c (v := .non) (d := .non) rv_non))
    (ss_fld (c := 2) (i := 4) rfl T.cl_Seat T.na_Seat_here nd_Seat lz_Seat se_var (se_c (v := .bl true) (d := .bl true) rv_bl))))))
theorem bd_Hall___init__ (T : Tx w K mg) : Binds K T.d_Hall___init__ ["self", "many"] [] := FunD.bindsN T.F_Hall___init__ fun _ _ _ _ _ _ us hl => match us, hl with | [_, _], _ => rfl
theorem ok_Hall___init__ (T : Tx w K mg) : FnOk P w K mg base CX0 3 T.a_Hall___init__ T.d_Hall___init__ ["self", "many"] (spOf K (gx T) 2 AH.F_Hall___init__) := by
  obtain ⟨t_MOST_PANES, k_MOST_PANES⟩ := T.k_MOST_PANES
  refine T.F_Hall___init__.ok (k := 2) sc_Hall___init__ sp_len (fun cdv A outer s H vs Q E hr h => ?_)
  refine' ⟨_, PSs.nox ?p, body_ok (N := N_Hall___init__) (n := 2) (b := AH.b_Hall___init__) ?s (by decide) h⟩
  case p => exact (pss_cons (ps_if (pt_not (pt_val (pe_call (ok_is_number T) (hr.mono (by decide)) rfl T.g_is_number T.F_is_number.kp (bd_is_number T) .nil pass0 (pa_cons (pv 1) (pa_cons pe_int (pa_cons (pe_glob (v := .int _) rfl k_MOST_PANES ⟨_, rfl⟩) pa_nil)))))) (pss_one ps_never) pss_nil)
    (pss_cons (psFld K (pv 0) (pe_lc (own := [("pane", 2)]) (g := (gName 2)) rfl sc_Hall___init__.nd (pi_range1 rfl T.n_range (pa_cons (pv 1) pa_nil)) (blkOk_by (own := [("pane", 2)]) (N := N_Hall___init__) (sc := defScope s_Hall___init__) (by decide +kernel)) (fun _ _ _ _ _ => (pg_name (i := 2) sc_Hall___init__.nd rfl (Or.inl rfl))) (fun _ _ _ _ _ => pts_nil) (fun _ _ _ _ _ => (pe_make0 (M := T.mk_Pane) (ok_Pane___init__ T) (hr.mono (by decide)) rfl T.gc_Pane (bd_Pane___init__ T) .nil pass0))))
    (pss_one (psFld K (pv 0) pe_dnewK))))
  case s => exact (ss_seq (ss_if (st_not (st_B (se_call runB_len (sa_cons se_var (sa_cons (se_c (d := .int 1) rv_int) (sa_cons (se_c (d := .int 3) rv_int) sa_nil)))))) ss_never ss_next)
    (ss_seq (ss_fld (c := 3) (i := 0) rfl T.cl_Hall T.na_Hall_places nd_Hall lz_Hall se_var (se_of (sf_lc (vs := [2]) (si_r1 (sa_cons se_var sa_nil)) (sp_name (by decide)) st_yes (se_make (c := 0) rfl runB_len sa_nil))))
    (ss_fld (c := 3) (i := 1) rfl T.cl_Hall T.na_Hall_seats nd_Hall lz_Hall se_var se_newK)))
theorem bd_Hall_take (T : Tx w K mg) : Binds K T.d_Hall_take ["self", "name", "seat", "fields"] [] := FunD.bindsN T.F_Hall_take fun _ _ _ _ _ _ us hl => match us, hl with | [_, _, _, _], _ => rfl
theorem ok_Hall_take (T : Tx w K mg) : FnOk P w K mg base CX0 5 T.a_Hall_take T.d_Hall_take ["self", "name", "seat", "fields"] (spOf K (gx T) 4 AH.F_Hall_take) := by
  obtain ⟨t_NONE, k_NONE⟩ := T.k_NONE
  refine T.F_Hall_take.ok (k := 4) sc_Hall_take sp_len (fun cdv A outer s H vs Q E hr h => ?_)
  refine' ⟨_, PSs.nox ?p, body_ok (N := N_Hall_take) (n := 4) (b := AH.b_Hall_take) ?s (by decide) h⟩
  case p => exact (pss_cons (ps_set (i := 4) sc_Hall_take.nd rfl (Or.inl rfl) (pe_ifExp (pt_cmpR (opEq K hr.units) (pe_ix (ixSeq K) (pv 3) pe_int (fun _ _ => rfl)) (pe_glob (v := .str _) rfl k_NONE ⟨_, rfl⟩) (nomark _)) pe_non (pe_call (ok_number_of T) (hr.mono (by decide)) rfl T.g_number_of T.F_number_of.kp (bd_number_of T) .nil pass0 (pa_cons (pe_ix (ixSeq K) (pv 3) pe_int (fun _ _ => rfl)) pa_nil))))
    (pss_cons (ps_if (PW.pt (pw_and (pt_cmp (pc_notN (pv 4)) rfl) (pw_and1 (PW.pt (pw_or (pt_cmp (pc_isN (peFld K (pv 2))) rfl) (pw_or1 (pt_cmpR op_gt (pv 4) (peFld K (pv 2)) (nomark _)))))))) (pss_one (psFld K (pv 2) (pv 4))) pss_nil)
    (pss_cons (ps_set (i := 5) sc_Hall_take.nd rfl (Or.inl rfl) (pe_call (ok_number_of T) (hr.mono (by decide)) rfl T.g_number_of T.F_number_of.kp (bd_number_of T) .nil pass0 (pa_cons (pe_ix (ixSeq K) (pv 3) pe_int (fun _ _ => rfl)) pa_nil)))
    (pss_one (ps_for PassesOwn.never rfl (pi_str (pe_ix (ixSeq K) (pv 3) pe_int (fun _ _ => rfl))) (pg_name (i := 6) sc_Hall_take.nd rfl (Or.inl rfl)) (pss_cons (ps_if (pt_cmpR (opEq K hr.units) (pv 5) (peFld K (pv 2)) (nomark _)) (pss_cons (ps_expr (pe_meth (pe_ix (ixSeq K) (peFld K (pv 0)) (peFld K (pv 2)) (fun _ _ => rfl)) T.cl_Pane T.me_Pane_press (ok_Pane_press T) (hr.mono (by decide)) (bd_Pane_press T) .nil pass0 (pa_cons (pv 1) (pa_cons (peFld K (pv 2)) (pa_cons (pv 6) pa_nil)))))
    (pss_one (psFld K (pv 2) (pe_op (opAdd K) (peFld K (pv 2)) pe_int)))) pss_nil)
    (pss_one (ps_set (i := 5) sc_Hall_take.nd rfl (Or.inl rfl) (pe_op (opAdd K) (pv 5) pe_int)))))))))
  case s => exact (ss_seq (ss_asg (se_if (st_test (se_op s2_eq (se_op s2_ix se_var (se_c (d := .int 0) rv_int)) (se_c (d := .str [63]) (rv_str (by decide +kernel))))) (se_c (v := .non) (d := .non) rv_non) (se_call runB_len (sa_cons (se_op s2_ix se_var (se_c (d := .int 0) rv_int)) sa_nil))) sg_name)
    (ss_seq (ss_if (st_and (st_B (se_notN se_var)) (st_or (st_B (se_isN (se_fld (c := 2) (i := 3) rfl T.cl_Seat T.na_Seat_knows nd_Seat se_var))) (st_test (se_op s2_cmp se_var (se_fld (c := 2) (i := 3) rfl T.cl_Seat T.na_Seat_knows nd_Seat se_var))))) (ss_fld (c := 2) (i := 3) rfl T.cl_Seat T.na_Seat_knows nd_Seat lz_Seat se_var se_var) ss_next)
    (ss_seq (ss_asg (se_call runB_len (sa_cons (se_op s2_ix se_var (se_c (d := .int 1) rv_int)) sa_nil)) sg_name)
    (ss_for (si_str (se_op s2_ix se_var (se_c (d := .int 2) rv_int))) sg_name (ss_seq (ss_if (st_test (se_op s2_eq se_var (se_fld (c := 2) (i := 2) rfl T.cl_Seat T.na_Seat_done nd_Seat se_var))) (ss_seq (ss_do (se_meth (c := 0) rfl nm_Pane_press runB_len (se_op s2_ix (se_fld (c := 3) (i := 0) rfl T.cl_Hall T.na_Hall_places nd_Hall se_var) (se_fld (c := 2) (i := 1) rfl T.cl_Seat T.na_Seat_pane nd_Seat se_var)) (sa_cons se_var (sa_cons (se_fld (c := 2) (i := 0) rfl T.cl_Seat T.na_Seat_session nd_Seat se_var) (sa_cons se_var sa_nil)))))
    (ss_fld (c := 2) (i := 2) rfl T.cl_Seat T.na_Seat_done nd_Seat lz_Seat se_var (se_op s2_add (se_fld (c := 2) (i := 2) rfl T.cl_Seat T.na_Seat_done nd_Seat se_var) (se_c (d := .int 1) rv_int)))) ss_next)
    (ss_asg (se_op s2_add se_var (se_c (d := .int 1) rv_int)) sg_name))))))
theorem bd_Hall_hear (T : Tx w K mg) : Binds K T.d_Hall_hear ["self", "text"] [] := FunD.bindsN T.F_Hall_hear fun _ _ _ _ _ _ us hl => match us, hl with | [_, _], _ => rfl
theorem ok_Hall_hear (T : Tx w K mg) : FnOk P w K mg base CX0 6 T.a_Hall_hear T.d_Hall_hear ["self", "text"] (spOf K (gx T) 2 AH.F_Hall_hear) := by
  refine T.F_Hall_hear.ok (k := 5) sc_Hall_hear sp_len (fun cdv A outer s H vs Q E hr h => ?_)
  refine' ⟨_, PSs.nox ?p, body_ok (N := N_Hall_hear) (n := 2) (b := AH.b_Hall_hear) ?s (by decide) h⟩
  case p => exact (pss_cons (ps_set (i := 2) sc_Hall_hear.nd rfl (Or.inl rfl) (pe_call (ok_unpacked T) (hr.mono (by decide)) rfl T.g_unpacked T.F_unpacked.kp (bd_unpacked T) .nil pass0 (pa_cons (pv 1) pa_nil)))
    (pss_cons (ps_if (PW.pt (pw_or (pt_cmp (pc_isN (pv 2)) rfl) (pw_or1 (pt_cmpR (opNotIn K) (pe_ix (ixSeq K) (pv 2) pe_int (fun _ _ => rfl)) (pe_tup (pa_cons pe_str (pa_cons pe_str pa_nil))) (by rfl))))) (pss_one ps_retN) pss_nil)
    (pss_cons (ps_asg (pe_lc (own := [("field", 6)]) (g := (gName 6)) rfl sc_Hall_hear.nd (piList K (pe_slice (slList K) (pv 2) (po_some pe_int) (po_some pe_int))) (blkOk_by (own := [("field", 6)]) (N := N_Hall_hear) (sc := defScope s_Hall_hear) (by decide +kernel)) (fun _ _ _ _ _ => (pg_name (i := 6) sc_Hall_hear.nd rfl (Or.inl rfl))) (fun _ _ _ _ _ => pts_nil) (fun _ _ _ _ _ => (pe_call (ok_number_of T) (hr.mono (by decide)) rfl T.g_number_of T.F_number_of.kp (bd_number_of T) .nil pass0 (pa_cons (pv 6) pa_nil)))) (pgUn K rfl (pgs_cons (pg_name (i := 3) sc_Hall_hear.nd rfl (Or.inl rfl)) (pgs_cons (pg_name (i := 4) sc_Hall_hear.nd rfl (Or.inl rfl)) (pgs_cons (pg_name (i := 5) sc_Hall_hear.nd rfl (Or.inl rfl)) pgs_nil)))))
    (pss_cons (ps_if (pt_cmpR op_ge (pv 5) (pe_callB (callLen K) rfl T.n_len (by decide +kernel) (pa_cons (peFld K (pv 0)) pa_nil)) (nomark _)) (pss_one ps_retN) pss_nil)
    (pss_cons (ps_set (i := 7) sc_Hall_hear.nd rfl (Or.inl rfl) (pe_dget2 (hu_of hr) (peFld K (pv 0)) (pv 3) pe_non ⟨rfl, rfl, rfl, rfl⟩))
    (pss_cons (ps_if (PW.pt (pw_or (pt_cmp (pc_isN (pv 7)) rfl) (pw_or1 (pt_cmpR op_gt (pv 4) (peFld K (pv 7)) (nomark _))))) (pss_cons (ps_set (i := 7) sc_Hall_hear.nd rfl (Or.inl rfl) (pe_make (M := T.mk_Seat) (ok_Seat___init__ T) (hr.mono (by decide)) rfl T.gc_Seat (bd_Seat___init__ T) .nil pass0 (pa_cons (pv 4) (pa_cons (pv 5) pa_nil))))
    (pss_one (ps_asg (pv 7) (pg_sub (peFld K (pv 0)) (pv 3) (set_dict (hu_of hr)))))) pss_nil)
    (pss_cons (ps_if (PW.pt (pw_or (pt_cmpR op_lt (pv 4) (peFld K (pv 7)) (nomark _)) (pw_or1 (pt_not (pt_val (peFld K (pv 7))))))) (pss_one ps_retN) pss_nil)
    (pss_one (ps_if (pt_cmpR (opEq K hr.units) (pe_ix (ixSeq K) (pv 2) pe_int (fun _ _ => rfl)) pe_str (nomark _)) (pss_one (psFld K (pv 7) pe_bl)) (pss_one (ps_expr (pe_meth (pv 0) T.cl_Hall T.me_Hall_take (ok_Hall_take T) (hr.mono (by decide)) (bd_Hall_take T) .nil pass0 (pa_cons (pv 3) (pa_cons (pv 7) (pa_cons (pe_slice (slList K) (pv 2) (po_some pe_int) po_none) pa_nil)))))))))))))))
  case s => exact (ss_seq (ss_asg (se_call runB_len (sa_cons se_var sa_nil)) sg_name)
    (ss_seq (ss_if (st_or (st_B (se_isN se_var)) (st_test (se_op s2_in (se_op s2_ix se_var (se_c (d := .int 0) rv_int)) (se_tup (sa_cons (se_c (d := .str [97, 116]) (rv_str (by decide +kernel))) (sa_cons (se_c (d := .str [103, 111, 110, 101]) (rv_str (by decide +kernel))) sa_nil)))))) ss_retN ss_next)
    (ss_seq (ss_asg (se_of (sf_lc (vs := [6]) (si_listF (sf_sl s3f_sl se_var (so_some (se_c (d := .int 1) rv_int)) (so_some (se_c (d := .int 4) rv_int)))) (sp_name (by decide)) st_yes (se_call runB_len (sa_cons se_var sa_nil)))) (sg_un (sgs_cons sg_name (sgs_cons sg_name (sgs_cons sg_name sgs_nil)))))
    (ss_seq (ss_if (st_test (se_op s2_cmp se_var (se_n sn_len (sa_cons (se_fld (c := 3) (i := 0) rfl T.cl_Hall T.na_Hall_places nd_Hall se_var) sa_nil)))) ss_retN ss_next)
    (ss_seq (ss_asg (se_dget2 (se_fld (c := 3) (i := 1) rfl T.cl_Hall T.na_Hall_seats nd_Hall se_var) se_var (se_c (v := .non) (d := .non) rv_non)) sg_name)
    (ss_seq (ss_if (st_or (st_B (se_isN se_var)) (st_test (se_op s2_cmp se_var (se_fld (c := 2) (i := 0) rfl T.cl_Seat T.na_Seat_session nd_Seat se_var)))) (ss_seq (ss_asg (se_make (c := 2) rfl runB_len (sa_cons se_var (sa_cons se_var sa_nil))) sg_name)
    (ss_asg se_var (sg_dput (se_fld (c := 3) (i := 1) rfl T.cl_Hall T.na_Hall_seats nd_Hall se_var) se_var))) ss_next)
    (ss_seq (ss_if (st_or (st_test (se_op s2_cmp se_var (se_fld (c := 2) (i := 0) rfl T.cl_Seat T.na_Seat_session nd_Seat se_var))) (st_not (st_B (se_fld (c := 2) (i := 4) rfl T.cl_Seat T.na_Seat_here nd_Seat se_var)))) ss_retN ss_next)
    (ss_if (st_test (se_op s2_eq (se_op s2_ix se_var (se_c (d := .int 0) rv_int)) (se_c (d := .str [103, 111, 110, 101]) (rv_str (by decide +kernel))))) (ss_fld (c := 2) (i := 4) rfl T.cl_Seat T.na_Seat_here nd_Seat lz_Seat se_var (se_c (v := .bl false) (d := .bl false) rv_bl)) (ss_do (se_meth (c := 3) rfl nm_Hall_take runB_len se_var (sa_cons se_var (sa_cons se_var (sa_cons (se_of (sf_sl s3f_sl se_var (so_some (se_c (d := .int 4) rv_int)) so_none)) sa_nil)))))))))))))
theorem bd_Hall_told (T : Tx w K mg) : Binds K T.d_Hall_told ["self", "name", "seat"] [] := FunD.bindsN T.F_Hall_told fun _ _ _ _ _ _ us hl => match us, hl with | [_, _, _], _ => rfl
theorem ok_Hall_told (T : Tx w K mg) : FnOk P w K mg base CX0 2 T.a_Hall_told T.d_Hall_told ["self", "name", "seat"] (spOf K (gx T) 3 AH.F_Hall_told) := by
  obtain ⟨t_MOST_TOLD, k_MOST_TOLD⟩ := T.k_MOST_TOLD
  refine T.F_Hall_told.ok (k := 1) sc_Hall_told sp_len (fun cdv A outer s H vs Q E hr h => ?_)
  refine' ⟨_, PSs.nox ?p, body_ok (N := N_Hall_told) (n := 3) (b := AH.b_Hall_told) ?s (by decide) h⟩
  case p => exact (pss_cons (ps_set (i := 3) sc_Hall_told.nd rfl (Or.inl rfl) (pe_ix (ixSeq K) (peFld K (pv 0)) (peFld K (pv 2)) (fun _ _ => rfl)))
    (pss_cons (ps_set (i := 4) sc_Hall_told.nd rfl (Or.inl rfl) (pe_lst (pa_cons (pe_callTy call_strAny rfl T.n_str (by decide +kernel) (pa_cons (pv 1) pa_nil)) (pa_cons (pe_callTy call_strAny rfl T.n_str (by decide +kernel) (pa_cons (peFld K (pv 2)) pa_nil)) (pa_cons (pe_callTy call_strAny rfl T.n_str (by decide +kernel) (pa_cons (peFld K (pv 2)) pa_nil)) pa_nil)))))
    (pss_cons (ps_set (i := 5) sc_Hall_told.nd rfl (Or.inl rfl) (pe_ifExp (pt_cmp (pc_isN (peFld K (pv 2))) rfl) pe_non (pe_meth (pv 3) T.cl_Pane T.me_Pane_since (ok_Pane_since T) (hr.mono (by decide)) (bd_Pane_since T) .nil pass0 (pa_cons (peFld K (pv 2)) pa_nil))))
    (pss_cons (ps_if (pt_cmp (pc_isN (pv 5)) rfl) (pss_one (ps_ret (pe_op op_cat (pe_op op_cat (pe_op op_cat (pe_lst (pa_cons pe_str pa_nil)) (pv 4)) (pe_lst (pa_cons (pe_callTy call_strAny rfl T.n_str (by decide +kernel) (pa_cons (pe_meth0 (pv 3) T.cl_Pane T.me_Pane_changes (ok_Pane_changes T) (hr.mono (by decide)) (bd_Pane_changes T) .nil pass0) pa_nil)) (pa_cons (pe_meth0 (pv 3) T.cl_Pane T.me_Pane_line (ok_Pane_line T) (hr.mono (by decide)) (bd_Pane_line T) .nil pass0) pa_nil)))) (pe_meth0 (pv 3) T.cl_Pane T.me_Pane_rows (ok_Pane_rows T) (hr.mono (by decide)) (bd_Pane_rows T) .nil pass0)))) pss_nil)
    (pss_cons (ps_set (i := 6) sc_Hall_told.nd rfl (Or.inl rfl) (pe_op op_cat (pe_op op_cat (pe_lst (pa_cons pe_str pa_nil)) (pv 4)) (pe_lst (pa_cons (pe_callTy call_strAny rfl T.n_str (by decide +kernel) (pa_cons (peFld K (pv 2)) pa_nil)) pa_nil))))
    (pss_cons (ps_for PassesOwn.never rfl (piList K (pe_slice (slList K) (pv 5) po_none (po_some (pe_glob (v := .int _) rfl k_MOST_TOLD ⟨_, rfl⟩)))) (pgTup K rfl (pgs_cons (pg_name (i := 7) sc_Hall_told.nd rfl (Or.inl rfl)) (pgs_cons (pg_name (i := 8) sc_Hall_told.nd rfl (Or.inl rfl)) pgs_nil))) (pss_one (ps_set (i := 6) sc_Hall_told.nd rfl (Or.inl rfl) (pe_op op_cat (pv 6) (pe_lst (pa_cons (pv 7) (pa_cons (pv 8) pa_nil)))))))
    (pss_one (ps_ret (pv 6)))))))))
  case s => exact (ss_seq (ss_asg (se_op s2_ix (se_fld (c := 3) (i := 0) rfl T.cl_Hall T.na_Hall_places nd_Hall se_var) (se_fld (c := 2) (i := 1) rfl T.cl_Seat T.na_Seat_pane nd_Seat se_var)) sg_name)
    (ss_seq (ss_asg (se_of (sf_lst (sa_cons (se_n sn_str (sa_cons se_var sa_nil)) (sa_cons (se_n sn_str (sa_cons (se_fld (c := 2) (i := 0) rfl T.cl_Seat T.na_Seat_session nd_Seat se_var) sa_nil)) (sa_cons (se_n sn_str (sa_cons (se_fld (c := 2) (i := 2) rfl T.cl_Seat T.na_Seat_done nd_Seat se_var) sa_nil)) sa_nil))))) sg_name)
    (ss_seq (ss_asg (se_if (st_B (se_isN (se_fld (c := 2) (i := 3) rfl T.cl_Seat T.na_Seat_knows nd_Seat se_var))) (se_c (v := .non) (d := .non) rv_non) (se_meth (c := 0) rfl nm_Pane_since runB_len se_var (sa_cons (se_fld (c := 2) (i := 3) rfl T.cl_Seat T.na_Seat_knows nd_Seat se_var) sa_nil))) sg_name)
    (ss_seq (ss_if (st_B (se_isN se_var)) (ss_retF (sf_op s2f_cat (se_of (sf_op s2f_cat (se_of (sf_op s2f_cat (se_of (sf_lst (sa_cons (se_c (d := .str [119, 104, 111, 108, 101]) (rv_str (by decide +kernel))) sa_nil))) se_var)) (se_of (sf_lst (sa_cons (se_n sn_str (sa_cons (se_meth (c := 0) rfl nm_Pane_changes runB_len se_var sa_nil) sa_nil)) (sa_cons (se_meth (c := 0) rfl nm_Pane_line runB_len se_var sa_nil) sa_nil)))))) (se_meth (c := 0) rfl nm_Pane_rows runB_len se_var sa_nil))) ss_next)
    (ss_seq (ss_asg (se_of (sf_op s2f_cat (se_of (sf_op s2f_cat (se_of (sf_lst (sa_cons (se_c (d := .str [115, 111, 109, 101]) (rv_str (by decide +kernel))) sa_nil))) se_var)) (se_of (sf_lst (sa_cons (se_n sn_str (sa_cons (se_fld (c := 2) (i := 3) rfl T.cl_Seat T.na_Seat_knows nd_Seat se_var) sa_nil)) sa_nil))))) sg_name)
    (ss_seq (ss_for (si_listF (sf_sl s3f_sl se_var so_none (so_some (se_c (d := .int 8) rv_int)))) (sg_tup (sgs_cons sg_name (sgs_cons sg_name sgs_nil))) (ss_asg (se_of (sf_op s2f_cat se_var (se_of (sf_lst (sa_cons se_var (sa_cons se_var sa_nil)))))) sg_name))
    (ss_ret se_var)))))))
theorem bd_Hall_letters (T : Tx w K mg) : Binds K T.d_Hall_letters ["self"] [] := FunD.bindsN T.F_Hall_letters fun _ _ _ _ _ _ us hl => match us, hl with | [_], _ => rfl
theorem ok_Hall_letters (T : Tx w K mg) : FnOk P w K mg base CX0 3 T.a_Hall_letters T.d_Hall_letters ["self"] (spOf K (gx T) 1 AH.F_Hall_letters) := by
  refine T.F_Hall_letters.ok (k := 2) sc_Hall_letters sp_len (fun cdv A outer s H vs Q E hr h => ?_)
  refine' ⟨_, PSs.nox ?p, body_ok (N := N_Hall_letters) (n := 1) (b := AH.b_Hall_letters) ?s (by decide) h⟩
  case p => exact (pss_cons (ps_set (i := 1) sc_Hall_letters.nd rfl (Or.inl rfl) (pe_lst pa_nil))
    (pss_cons (ps_for PassesOwn.never rfl (piList K (pe_callB (call_sortedDI rfl) rfl T.n_sorted (by decide +kernel) (pa_cons (peFld K (pv 0)) pa_nil))) (pg_name (i := 2) sc_Hall_letters.nd rfl (Or.inl rfl)) (pss_cons (ps_set (i := 3) sc_Hall_letters.nd rfl (Or.inl rfl) (pe_dget (hu_of hr) (peFld K (pv 0)) (pv 2) (fun _ _ => rfl)))
    (pss_one (ps_if (pt_val (peFld K (pv 3))) (pss_one (ps_expr (peBm K PySem.F.plainAttrs_list PySem.F.slot_list_append PySem.F.type_list_append mt_append (pv 1) (pa_cons (pe_tup (pa_cons (pv 2) (pa_cons (pe_call (ok_packed T) (hr.mono (by decide)) rfl T.g_packed T.F_packed.kp (bd_packed T) .nil pass0 (pa_cons (pe_meth (pv 0) T.cl_Hall T.me_Hall_told (ok_Hall_told T) (hr.mono (by decide)) (bd_Hall_told T) .nil pass0 (pa_cons (pv 2) (pa_cons (pv 3) pa_nil))) pa_nil)) pa_nil))) pa_nil)))) pss_nil))))
    (pss_one (ps_ret (pv 1)))))
  case s => exact (ss_seq (ss_acc (sf_lst sa_nil))
    (ss_seq (ss_for (si_listF (sf_n snf_sortD (sa_cons (se_fld (c := 3) (i := 1) rfl T.cl_Hall T.na_Hall_seats nd_Hall se_var) sa_nil))) sg_name (ss_seq (ss_asg (se_dget (se_fld (c := 3) (i := 1) rfl T.cl_Hall T.na_Hall_seats nd_Hall se_var) se_var) sg_name)
    (ss_if (st_B (se_fld (c := 2) (i := 4) rfl T.cl_Seat T.na_Seat_here nd_Seat se_var)) (ss_app (se_tup (sa_cons se_var (sa_cons (se_call runB_len (sa_cons (se_meth (c := 3) rfl nm_Hall_told runB_len se_var (sa_cons se_var (sa_cons se_var sa_nil))) sa_nil)) sa_nil)))) ss_next)))
    ss_retA))
theorem bd_Hall_typed (T : Tx w K mg) : Binds K T.d_Hall_typed ["self", "pane"] [] := FunD.bindsN T.F_Hall_typed fun _ _ _ _ _ _ us hl => match us, hl with | [_, _], _ => rfl
theorem ok_Hall_typed (T : Tx w K mg) : FnOk P w K mg base CX0 2 T.a_Hall_typed T.d_Hall_typed ["self", "pane"] (spOf K (gx T) 2 AH.F_Hall_typed) := by
  refine T.F_Hall_typed.ok (k := 1) sc_Hall_typed sp_len (fun cdv A outer s H vs Q E hr h => ?_)
  refine' ⟨_, PSs.nox ?p, body_ok (N := N_Hall_typed) (n := 2) (b := AH.b_Hall_typed) ?s (by decide) h⟩
  case p => exact (pss_cons (ps_if (pt_not (pt_val (pe_call (ok_is_number T) (hr.mono (by decide)) rfl T.g_is_number T.F_is_number.kp (bd_is_number T) .nil pass0 (pa_cons (pv 1) (pa_cons pe_int (pa_cons (pe_op op_sub (pe_callB (callLen K) rfl T.n_len (by decide +kernel) (pa_cons (peFld K (pv 0)) pa_nil)) pe_int) pa_nil)))))) (pss_one ps_never) pss_nil)
    (pss_one (ps_ret (pe_meth0 (pe_ix (ixSeq K) (peFld K (pv 0)) (pv 1) (fun _ _ => rfl)) T.cl_Pane T.me_Pane_typed (ok_Pane_typed T) (hr.mono (by decide)) (bd_Pane_typed T) .nil pass0))))
  case s => exact (ss_seq (ss_if (st_not (st_B (se_call runB_len (sa_cons se_var (sa_cons (se_c (d := .int 0) rv_int) (sa_cons (se_op s2_sub (se_n sn_len (sa_cons (se_fld (c := 3) (i := 0) rfl T.cl_Hall T.na_Hall_places nd_Hall se_var) sa_nil)) (se_c (d := .int 1) rv_int)) sa_nil)))))) ss_never ss_next)
    (ss_retF (sf_meth (c := 0) rfl nm_Pane_typed runB_len (se_op s2_ix (se_fld (c := 3) (i := 0) rfl T.cl_Hall T.na_Hall_places nd_Hall se_var) se_var) sa_nil)))
theorem bd_Hall_looks (T : Tx w K mg) : Binds K T.d_Hall_looks ["self"] [] := FunD.bindsN T.F_Hall_looks fun _ _ _ _ _ _ us hl => match us, hl with | [_], _ => rfl
theorem ok_Hall_looks (T : Tx w K mg) : FnOk P w K mg base CX0 1 T.a_Hall_looks T.d_Hall_looks ["self"] (spOf K (gx T) 1 AH.F_Hall_looks) := by
  refine T.F_Hall_looks.ok (k := 0) sc_Hall_looks sp_len (fun cdv A outer s H vs Q E hr h => ?_)
  refine' ⟨_, PSs.nox ?p, body_ok (N := N_Hall_looks) (n := 1) (b := AH.b_Hall_looks) ?s (by decide) h⟩
  case p => exact (pss_cons (ps_setLc (i := 1) (own := [("name", 2)]) (g := (gName 2)) rfl sc_Hall_looks.nd rfl rfl (sw_true rfl rfl rfl (by decide +kernel)) (piList K (pe_callB (call_sortedDI rfl) rfl T.n_sorted (by decide +kernel) (pa_cons (peFld K (pv 0)) pa_nil))) (blkOk_by (own := [("name", 2)]) (N := N_Hall_looks) (sc := defScope s_Hall_looks) (by decide +kernel)) (fun _ _ _ _ _ => (pg_name (i := 2) sc_Hall_looks.nd rfl (Or.inl rfl))) (fun _ _ _ _ _ => pts_nil) (fun _ _ _ _ _ => (pe_tup (pa_cons (pv 2) (pa_cons (peFld K (pe_dget (hu_of hr) (peFld K (pv 0)) (pv 2) (fun _ _ => rfl))) (pa_cons (peFld K (pe_dget (hu_of hr) (peFld K (pv 0)) (pv 2) (fun _ _ => rfl))) pa_nil))))))
    (pss_one (ps_ret (pe_lc (own := [("one", 3)]) (g := (gName 3)) rfl sc_Hall_looks.nd (piList K (pv 1)) (blkOk_by (own := [("one", 3)]) (N := N_Hall_looks) (sc := defScope s_Hall_looks) (by decide +kernel)) (fun _ _ _ _ _ => (pg_name (i := 3) sc_Hall_looks.nd rfl (Or.inl rfl))) (fun _ _ _ _ _ => (pts_one (pt_val (peFld K (pe_dget (hu_of hr) (peFld K (pv 0)) (pe_ix (ixSeq K) (pv 3) pe_int (fun _ _ => rfl)) (fun _ _ => rfl)))))) (fun _ _ _ _ _ => (pv 3))))))
  case s => exact (ss_seq (ss_asg (se_of (sf_lc (vs := [2]) (si_listF (sf_n snf_sortD (sa_cons (se_fld (c := 3) (i := 1) rfl T.cl_Hall T.na_Hall_seats nd_Hall se_var) sa_nil))) (sp_name (by decide)) st_yes (se_tup (sa_cons se_var (sa_cons (se_fld (c := 2) (i := 0) rfl T.cl_Seat T.na_Seat_session nd_Seat (se_dget (se_fld (c := 3) (i := 1) rfl T.cl_Hall T.na_Hall_seats nd_Hall se_var) se_var)) (sa_cons (se_fld (c := 2) (i := 1) rfl T.cl_Seat T.na_Seat_pane nd_Seat (se_dget (se_fld (c := 3) (i := 1) rfl T.cl_Hall T.na_Hall_seats nd_Hall se_var) se_var)) sa_nil)))))) sg_name)
    (ss_retF (sf_lc (vs := [3]) (si_list se_var) (sp_name (by decide)) (st_B (se_fld (c := 2) (i := 4) rfl T.cl_Seat T.na_Seat_here nd_Seat (se_dget (se_fld (c := 3) (i := 1) rfl T.cl_Hall T.na_Hall_seats nd_Hall se_var) (se_op s2_ix se_var (se_c (d := .int 0) rv_int))))) se_var)))
theorem bd__law_begun (T : Tx w K mg) : Binds K T.d__law_begun ["_law_script"] [] := FunD.bindsN T.F__law_begun fun _ _ _ _ _ _ us hl => match us, hl with | [_], _ => rfl
theorem ok__law_begun (T : Tx w K mg) : FnOk P w K mg base CX0 1 T.a__law_begun T.d__law_begun ["_law_script"] (spOf K (gx T) 1 AH.F_begun) := by
  refine T.F__law_begun.ok (k := 0) sc__law_begun sp_len (fun cdv A outer s H vs Q E hr h => ?_)
  refine' ⟨_, PSs.nox ?p, body_ok (N := N__law_begun) (n := 1) (b := AH.bBegun) ?s (by decide) h⟩
  case p => exact (pss_cons (ps_set (i := 1) sc__law_begun.nd rfl (Or.inl rfl) pe_int)
    (pss_cons (ps_for PassesOwn.never rfl (piList K (pv 0)) (pg_name (i := 2) sc__law_begun.nd rfl (Or.inl rfl)) (pss_one (ps_set (i := 1) sc__law_begun.nd rfl (Or.inl rfl) (pe_op op_mod (pe_op (opAdd K) (pe_op (opAdd K) (pe_op op_mulAny (pv 1) pe_int) (pe_op op_mulAny (pv 2) pe_int)) pe_int) pe_int))))
    (pss_one (ps_ret (pe_lst (pa_cons (pe_callTy (callList K) rfl T.n_list (by decide +kernel) (pa_cons (pv 0) pa_nil)) (pa_cons (pe_op op_mulAny (pv 1) (pe_callTy call_int1 rfl T.n_int (by decide +kernel) (pa_cons (pe_cmpR op_gt (pe_callB (callLen K) rfl T.n_len (by decide +kernel) (pa_cons (pv 0) pa_nil)) pe_int (nomark _)) pa_nil))) pa_nil)))))))
  case s => exact (ss_seq (ss_asg (se_c (d := .int 0) rv_int) sg_name)
    (ss_seq (ss_for (si_list se_var) sg_name (ss_asg (se_op s2_mod (se_op s2_add (se_op s2_add (se_op s2_mul se_var (se_c (d := .int 48271) rv_int)) (se_op s2_mul se_var (se_c (d := .int 69621) rv_int))) (se_c (d := .int 11) rv_int)) (se_c (d := .int 2147483647) rv_int)) sg_name))
    (ss_ret (se_own (sf_lst (sa_cons (se_own (sf_n snf_listOf (sa_cons se_var sa_nil))) (sa_cons (se_op s2_mul se_var (se_n sn_int (sa_cons (se_op s2_cmp (se_n sn_len (sa_cons se_var sa_nil)) (se_c (d := .int 2) rv_int)) sa_nil))) sa_nil)))))))
theorem bd__law_take (T : Tx w K mg) : Binds K T.d__law_take ["_law_box", "_law_many"] [] := FunD.bindsN T.F__law_take fun _ _ _ _ _ _ us hl => match us, hl with | [_, _], _ => rfl
theorem ok__law_take (T : Tx w K mg) : FnOk P w K mg base CX0 1 T.a__law_take T.d__law_take ["_law_box", "_law_many"] (spOf K (gx T) 2 AH.F_take) := by
  refine T.F__law_take.ok (k := 0) sc__law_take sp_len (fun cdv A outer s H vs Q E hr h => ?_)
  refine' ⟨_, PSs.nox ?p, body_ok (N := N__law_take) (n := 2) (b := AH.bTake) ?s (by decide) h⟩
  case p => exact (pss_cons (ps_if (pt_cmpR (opEq K hr.units) (pe_ix (ixSeq K) (pv 0) pe_int (fun _ _ => rfl)) (pe_lst pa_nil) (nomark _)) (pss_cons (ps_asg (pe_op op_mod (pe_op op_mulAny (pe_ix (ixSeq K) (pv 0) pe_int (fun _ _ => rfl)) pe_int) pe_int) (pg_sub (pv 0) pe_int set_list))
    (pss_one (ps_ret (pe_op op_mod (pe_op op_fdiv (pe_ix (ixSeq K) (pv 0) pe_int (fun _ _ => rfl)) pe_int) (pv 1))))) pss_nil)
    (pss_cons (ps_set (i := 2) sc__law_take.nd rfl (Or.inl rfl) (pe_ix (ixSeq K) (pe_ix (ixSeq K) (pv 0) pe_int (fun _ _ => rfl)) pe_int (fun _ _ => rfl)))
    (pss_cons (ps_asg (pe_op op_fdiv (pv 2) (pv 1)) (pg_sub (pe_ix (ixSeq K) (pv 0) pe_int (fun _ _ => rfl)) pe_int set_list))
    (pss_cons (ps_if (PW.pt (pw_or (pt_cmpR (opEq K hr.units) (pe_ix (ixSeq K) (pe_ix (ixSeq K) (pv 0) pe_int (fun _ _ => rfl)) pe_int (fun _ _ => rfl)) pe_int (nomark _)) (pw_or1 (pt_cmpR (opEq K hr.units) (pe_ix (ixSeq K) (pe_ix (ixSeq K) (pv 0) pe_int (fun _ _ => rfl)) pe_int (fun _ _ => rfl)) (pe_un un_neg pe_int) (nomark _))))) (pss_one (ps_expr (peBm K PySem.F.plainAttrs_list PySem.F.slot_list_pop PySem.F.type_list_pop mt_popAt (pe_ix (ixSeq K) (pv 0) pe_int (fun _ _ => rfl)) (pa_cons pe_int pa_nil)))) pss_nil)
    (pss_one (ps_ret (pe_op op_mod (pv 2) (pv 1))))))))
  case s => exact (ss_seq (ss_if (st_test (se_op s2_eq (se_op s2_ix se_var (se_c (d := .int 0) rv_int)) (se_of (sf_lst sa_nil)))) (ss_seq (ss_asg (se_op s2_mod (se_op s2_mul (se_op s2_ix se_var (se_c (d := .int 1) rv_int)) (se_c (d := .int 48271) rv_int)) (se_c (d := .int 2147483647) rv_int)) (sg_sub se_var (se_c (d := .int 1) rv_int)))
    (ss_ret (se_op s2_mod (se_op s2_div (se_op s2_ix se_var (se_c (d := .int 1) rv_int)) (se_c (d := .int 7) rv_int)) se_var))) ss_next)
    (ss_seq (ss_asg (se_op s2_ix (se_op s2_ix se_var (se_c (d := .int 0) rv_int)) (se_c (d := .int 0) rv_int)) sg_name)
    (ss_seq (ss_asg (se_op s2_div se_var se_var) (sg_sub (se_op s2_ix se_var (se_c (d := .int 0) rv_int)) (se_c (d := .int 0) rv_int)))
    (ss_seq (ss_if (st_or (st_test (se_op s2_eq (se_op s2_ix (se_op s2_ix se_var (se_c (d := .int 0) rv_int)) (se_c (d := .int 0) rv_int)) (se_c (d := .int 0) rv_int))) (st_test (se_op s2_eq (se_op s2_ix (se_op s2_ix se_var (se_c (d := .int 0) rv_int)) (se_c (d := .int 0) rv_int)) (se_un s1_neg (se_c (d := .int 1) rv_int))))) (ss_do (se_bm sm_popAt (se_op s2_ix se_var (se_c (d := .int 0) rv_int)) (sa_cons (se_c (d := .int 0) rv_int) sa_nil))) ss_next)
    (ss_ret (se_op s2_mod se_var se_var))))))
theorem bd__law_alike (T : Tx w K mg) : Binds K T.d__law_alike ["_law_found", "_law_due"] [] := FunD.bindsN T.F__law_alike fun _ _ _ _ _ _ us hl => match us, hl with | [_, _], _ => rfl
theorem _law_alike_len : ∀ (m : Nat) ds S r, AH.F_alike m ds S = some r → ds.length = 2
  | 0, _, _, _, h => by cases h
  | m + 1, ds, S, r, h => runB_len ds S r h
theorem bd__law_told (T : Tx w K mg) : Binds K T.d__law_told ["_law_work"] [] := FunD.bindsN T.F__law_told fun _ _ _ _ _ _ us hl => match us, hl with | [_], _ => rfl
theorem told_ok (T : Tx w K mg) : ∃ ts : Addr → Value → Option Addr → TS, (∀ (P : Program) (base : Heap) (A : Around) (st : List Env) (cdv : Value) (s : Shared) (H : Hp) (a : Addr) (oe : Obj) (cls : Value) (d : Option Addr) (pn : List (Addr × Obj)), Room 0 (A.deeper (envOfC "_law_told" (defScope s__law_told) s.heap.objs.size T.a__law_told cdv)) → Zc cls d oe → (∃ vs, oe.data = .fields vs) →
    PSs (((cxOf C8.CX0 P w K mg base N__law_told "_law_told" (defScope s__law_told) T.a__law_told cdv A st s H C8.E0).nox).suite a ((a, oe) :: pn)) (suiteOf s__law_told) (ts a cls d)) ∧ (∀ cel, Suite K (gxo T cel) (He.ga K "HallError") 1 4 ts toldV) := by
  refine' ⟨?ts, fun P base A st cdv s H a oe cls d pn hr hz hf => ?p, fun cel => suite_ok (b := b__law_told) (by decide) (fun c a d fs d0 h => ?s) (fun c fs d0 h => (told_at (cm_x T) T.E h).m) (fun c fs d0 a d S h hd => ?r)⟩
  case p => exact (pss_cons (ps_set (i := 2) sc__law_told.nd rfl (Or.inl rfl) (pe_lst (pa_cons (pe_callB (call_isX K hz hf) rfl T.n_isinstance (by decide +kernel) (pa_cons (pv 1) (pa_cons (pe_glob (v := .ref (He.ga K "BadCount")) rfl T.gx_BadCount rfl) pa_nil))) (pa_cons (pe_callB (call_isX K hz hf) rfl T.n_isinstance (by decide +kernel) (pa_cons (pv 1) (pa_cons (pe_glob (v := .ref (He.ga K "BadFields")) rfl T.gx_BadFields rfl) pa_nil))) (pa_cons (pe_callB (call_isX K hz hf) rfl T.n_isinstance (by decide +kernel) (pa_cons (pv 1) (pa_cons (pe_glob (v := .ref (He.ga K "BadLook")) rfl T.gx_BadLook rfl) pa_nil))) (pa_cons (pe_callB (call_isX K hz hf) rfl T.n_isinstance (by decide +kernel) (pa_cons (pv 1) (pa_cons (pe_glob (v := .ref (He.ga K "BadSign")) rfl T.gx_BadSign rfl) pa_nil))) pa_nil))))))
    (pss_cons (ps_set (i := 2) sc__law_told.nd rfl (Or.inl rfl) (pe_op op_cat (pv 2) (pe_lst (pa_cons (pe_callB (call_isX K hz hf) rfl T.n_isinstance (by decide +kernel) (pa_cons (pv 1) (pa_cons (pe_glob (v := .ref (He.ga K "BadSize")) rfl T.gx_BadSize rfl) pa_nil))) (pa_cons (pe_callB (call_isX K hz hf) rfl T.n_isinstance (by decide +kernel) (pa_cons (pv 1) (pa_cons (pe_glob (v := .ref (He.ga K "BadText")) rfl T.gx_BadText rfl) pa_nil))) (pa_cons (pe_callB (call_isX K hz hf) rfl T.n_isinstance (by decide +kernel) (pa_cons (pv 1) (pa_cons (pe_glob (v := .ref (He.ga K "NoLook")) rfl T.gx_NoLook rfl) pa_nil))) pa_nil))))))
    (pss_cons (ps_if (PW.pt (pw_or (pt_cmpR (opNe K hr.units) (peBm K PySem.F.plainAttrs_list PySem.F.slot_list_count PySem.F.type_list_count (mt_cntF K) (pv 2) (pa_cons pe_bl pa_nil)) pe_int (nomark _)) (pw_or1 (pt_not (pt_val (pe_callB (call_isX K hz hf) rfl T.n_isinstance (by decide +kernel) (pa_cons (pv 1) (pa_cons (pe_bltn (v := .ty "ValueError") rfl T.n_ValueError (by decide +kernel) rfl) pa_nil)))))))) (pss_one (ps_ret (pe_tup (pa_cons pe_str (pa_cons pe_int pa_nil))))) pss_nil)
    (pss_cons (ps_set (i := 3) sc__law_told.nd rfl (Or.inl rfl) (pe_ix (ixSeq K) (pe_lst (pa_cons pe_str (pa_cons pe_str (pa_cons pe_str (pa_cons pe_str (pa_cons pe_str (pa_cons pe_str (pa_cons pe_str pa_nil)))))))) (peBm K PySem.F.plainAttrs_list PySem.F.slot_list_index PySem.F.type_list_index (mtIdx K) (pv 2) (pa_cons pe_bl pa_nil)) (fun _ _ => rfl)))
    (pss_cons (ps_if (pt_cmpR (opEq K hr.units) (pv 3) pe_str (nomark _)) (pss_one (ps_ret (pe_tup (pa_cons (pv 3) (pa_cons (peXf K (T.E.c "BadSign" (by decide +kernel)).2 T.o_BadSign.n hz hf (pv 1)) pa_nil))))) pss_nil)
    (pss_one (ps_ret (pe_tup (pa_cons (pv 3) (pa_cons (pe_ifExp (pt_cmpR (opEq K hr.units) (pv 3) pe_str (nomark _)) (peXf K (T.E.c "BadText" (by decide +kernel)).2 T.o_BadText.n hz hf (pv 1)) pe_int) pa_nil))))))))))
  case s =>
    have hT := told_at (cm_x T) T.E h
    exact (ss_seq (ss_asg (se_of (sf_lst (sa_cons (se_isX hT.e (hT.k 0 _ rfl) (fun u r => r)) (sa_cons (se_isX hT.e (hT.k 1 _ rfl) (fun u r => r)) (sa_cons (se_isX hT.e (hT.k 2 _ rfl) (fun u r => r)) (sa_cons (se_isX hT.e (hT.k 3 _ rfl) (fun u r => r)) sa_nil)))))) sg_name)
    (ss_seq (ss_asg (se_of (sf_op s2f_cat se_var (se_of (sf_lst (sa_cons (se_isX hT.e (hT.k 4 _ rfl) (fun u r => r)) (sa_cons (se_isX hT.e (hT.k 5 _ rfl) (fun u r => r)) (sa_cons (se_isX hT.e (hT.k 6 _ rfl) (fun u r => r)) sa_nil))))))) sg_name)
    (ss_seq (ss_if (st_or (st_test (se_op s2_ne (se_bmV sm_cntB se_var (sa_cons (se_c (v := .bl true) (d := .bl true) rv_bl) sa_nil)) (se_c (d := .int 1) rv_int))) (st_not (st_B (se_isX hT.e hT.v (fun u r => r))))) (ss_ret (se_tup (sa_cons (se_c (d := .str [111, 116, 104, 101, 114]) (rv_str (by decide +kernel))) (sa_cons (se_c (d := .int 0) rv_int) sa_nil)))) ss_next)
    (ss_seq (ss_asg (se_op s2_ix (se_of (sf_lst (sa_cons (se_c (d := .str [66, 97, 100, 67, 111, 117, 110, 116]) (rv_str (by decide +kernel))) (sa_cons (se_c (d := .str [66, 97, 100, 70, 105, 101, 108, 100, 115]) (rv_str (by decide +kernel))) (sa_cons (se_c (d := .str [66, 97, 100, 76, 111, 111, 107]) (rv_str (by decide +kernel))) (sa_cons (se_c (d := .str [66, 97, 100, 83, 105, 103, 110]) (rv_str (by decide +kernel))) (sa_cons (se_c (d := .str [66, 97, 100, 83, 105, 122, 101]) (rv_str (by decide +kernel))) (sa_cons (se_c (d := .str [66, 97, 100, 84, 101, 120, 116]) (rv_str (by decide +kernel))) (sa_cons (se_c (d := .str [78, 111, 76, 111, 111, 107]) (rv_str (by decide +kernel))) sa_nil))))))))) (se_bmV sm_idxB se_var (sa_cons (se_c (v := .bl true) (d := .bl true) rv_bl) sa_nil))) sg_name)
    (ss_seq (ss_if (st_test (se_op s2_eq se_var (se_c (d := .str [66, 97, 100, 83, 105, 103, 110]) (rv_str (by decide +kernel))))) (ss_ret (se_tup (sa_cons se_var (sa_cons (se_xf (hT.f 3 _ rfl)) sa_nil)))) ss_next)
    (ss_ret (se_tup (sa_cons se_var (sa_cons (se_if (st_test (se_op s2_eq se_var (se_c (d := .str [66, 97, 100, 84, 101, 120, 116]) (rv_str (by decide +kernel))))) (se_xf (hT.f 5 _ rfl)) (se_c (d := .int 0) rv_int)) sa_nil)))))))))
  case r => exact told_run h hd
theorem bd__law_all (T : Tx w K mg) : Binds K T.d__law_all ["_law_works", "_law_due"] [] := FunD.bindsN T.F__law_all fun _ _ _ _ _ _ us hl => match us, hl with | [_, _], _ => rfl
theorem okc__law_alike (T : Tx w K mg) (cel : Addr → Option Obj) : ∀ m : Nat, FnOk P w K mg base CX0 (3 + m) T.a__law_alike T.d__law_alike ["_law_found", "_law_due"] (spOf K (gxo T cel) 2 (AH.F_alike m))
  | 0 => fn_none
  | m + 1 => by
    have G := okc__law_alike T cel m
    refine T.F__law_alike.ok (k := 3 + m) sc__law_alike sp_len (fun cdv A outer s H vs Q E hr h => ?_)
    refine' ⟨_, PSs.nox ?p, body_ok (N := N__law_alike) (n := 2) (b := AH.bAlike (AH.F_alike m)) ?s (by decide) h⟩
    case p => exact (pss_cons (ps_if (pt_cmp (pc_isN (pv 1)) rfl) (pss_one (ps_ret (pe_cmp (pc_isN (pv 0)) rfl))) pss_nil)
    (pss_cons (ps_if (pt_val (pe_callB (callIsi K) rfl T.n_isinstance (by decide +kernel) (pa_cons (pv 1) (pa_cons (pe_bltn (v := .ty "bool") rfl T.n_bool (by decide +kernel) rfl) pa_nil)))) (pss_one (ps_ret (pe_and (pe_callB (callIsi K) rfl T.n_isinstance (by decide +kernel) (pa_cons (pv 0) (pa_cons (pe_bltn (v := .ty "bool") rfl T.n_bool (by decide +kernel) rfl) pa_nil))) (pe_one (pe_cmpR (opEq K hr.units) (pv 0) (pv 1) (nomark _)))))) pss_nil)
    (pss_cons (ps_if (pt_val (pe_callB (callIsi K) rfl T.n_isinstance (by decide +kernel) (pa_cons (pv 1) (pa_cons (pe_bltn (v := .ty "int") rfl T.n_int (by decide +kernel) rfl) pa_nil)))) (pss_one (ps_ret (pe_and (pe_callB (callIsi K) rfl T.n_isinstance (by decide +kernel) (pa_cons (pv 0) (pa_cons (pe_bltn (v := .ty "int") rfl T.n_int (by decide +kernel) rfl) pa_nil))) (pe_and (pe_not (pe_callB (callIsi K) rfl T.n_isinstance (by decide +kernel) (pa_cons (pv 0) (pa_cons (pe_bltn (v := .ty "bool") rfl T.n_bool (by decide +kernel) rfl) pa_nil)))) (pe_one (pe_cmpR (opEq K hr.units) (pv 0) (pv 1) (nomark _))))))) pss_nil)
    (pss_cons (ps_if (pt_val (pe_callB (callIsi K) rfl T.n_isinstance (by decide +kernel) (pa_cons (pv 1) (pa_cons (pe_bltn (v := .ty "str") rfl T.n_str (by decide +kernel) rfl) pa_nil)))) (pss_one (ps_ret (pe_and (pe_callB (callIsi K) rfl T.n_isinstance (by decide +kernel) (pa_cons (pv 0) (pa_cons (pe_bltn (v := .ty "str") rfl T.n_str (by decide +kernel) rfl) pa_nil))) (pe_one (pe_cmpR (opEq K hr.units) (pv 0) (pv 1) (nomark _)))))) pss_nil)
    (pss_cons (ps_if (PW.pt (pw_or (pt_cmpR (opNe K hr.units) (pe_callB (callIsi K) rfl T.n_isinstance (by decide +kernel) (pa_cons (pv 1) (pa_cons (pe_bltn (v := .ty "tuple") rfl T.n_tuple (by decide +kernel) rfl) pa_nil))) (pe_callB (callIsi K) rfl T.n_isinstance (by decide +kernel) (pa_cons (pv 0) (pa_cons (pe_bltn (v := .ty "tuple") rfl T.n_tuple (by decide +kernel) rfl) pa_nil))) (nomark _)) (pw_or1 (pt_cmpR (opNe K hr.units) (pe_callB (callIsi K) rfl T.n_isinstance (by decide +kernel) (pa_cons (pv 1) (pa_cons (pe_bltn (v := .ty "list") rfl T.n_list (by decide +kernel) rfl) pa_nil))) (pe_callB (callIsi K) rfl T.n_isinstance (by decide +kernel) (pa_cons (pv 0) (pa_cons (pe_bltn (v := .ty "list") rfl T.n_list (by decide +kernel) rfl) pa_nil))) (nomark _))))) (pss_one (ps_ret pe_bl)) pss_nil)
    (pss_cons (ps_if (pt_cmpR (opNe K hr.units) (pe_callB (callLen K) rfl T.n_len (by decide +kernel) (pa_cons (pv 0) pa_nil)) (pe_callB (callLen K) rfl T.n_len (by decide +kernel) (pa_cons (pv 1) pa_nil)) (nomark _)) (pss_one (ps_ret pe_bl)) pss_nil)
    (pss_cons (ps_for PassesOwn.never rfl (pi_range1 rfl T.n_range (pa_cons (pe_callB (callLen K) rfl T.n_len (by decide +kernel) (pa_cons (pv 1) pa_nil)) pa_nil)) (pg_name (i := 2) sc__law_alike.nd rfl (Or.inl rfl)) (pss_one (ps_if (pt_not (pt_val (pe_call G (hr.mono (by omega)) rfl T.g__law_alike T.F__law_alike.kp (bd__law_alike T) .nil pass0 (pa_cons (pe_ix (ixSeq K) (pv 0) (pv 2) (fun _ _ => rfl)) (pa_cons (pe_ix (ixSeq K) (pv 1) (pv 2) (fun _ _ => rfl)) pa_nil))))) (pss_one (ps_ret pe_bl)) pss_nil)))
    (pss_one (ps_ret pe_bl)))))))))
    case s => exact (ss_seq (ss_if (st_B (se_isN se_var)) (ss_ret (se_isN se_var)) ss_next)
    (ss_seq (ss_if (st_B (se_n sn_isT (sa_cons se_var (sa_cons (se_c rv_raw) sa_nil)))) (ss_ret (se_and (se_n sn_isT (sa_cons se_var (sa_cons (se_c rv_raw) sa_nil))) (se_op s2_eq se_var se_var))) ss_next)
    (ss_seq (ss_if (st_B (se_n sn_isT (sa_cons se_var (sa_cons (se_c rv_raw) sa_nil)))) (ss_ret (se_and (se_n sn_isT (sa_cons se_var (sa_cons (se_c rv_raw) sa_nil))) (se_and (se_not (se_n sn_isT (sa_cons se_var (sa_cons (se_c rv_raw) sa_nil)))) (se_op s2_eq se_var se_var)))) ss_next)
    (ss_seq (ss_if (st_B (se_n sn_isT (sa_cons se_var (sa_cons (se_c rv_raw) sa_nil)))) (ss_ret (se_and (se_n sn_isT (sa_cons se_var (sa_cons (se_c rv_raw) sa_nil))) (se_op s2_eq se_var se_var))) ss_next)
    (ss_seq (ss_if (st_or (st_test (se_op s2_ne (se_n sn_isT (sa_cons se_var (sa_cons (se_c rv_raw) sa_nil))) (se_n sn_isT (sa_cons se_var (sa_cons (se_c rv_raw) sa_nil))))) (st_test (se_op s2_ne (se_n sn_isT (sa_cons se_var (sa_cons (se_c rv_raw) sa_nil))) (se_n sn_isT (sa_cons se_var (sa_cons (se_c rv_raw) sa_nil)))))) (ss_ret (se_c (v := .bl false) (d := .bl false) rv_bl)) ss_next)
    (ss_seq (ss_if (st_test (se_op s2_ne (se_n sn_len (sa_cons se_var sa_nil)) (se_n sn_len (sa_cons se_var sa_nil)))) (ss_ret (se_c (v := .bl false) (d := .bl false) rv_bl)) ss_next)
    (ss_seq (ss_for (si_r1 (sa_cons (se_n sn_len (sa_cons se_var sa_nil)) sa_nil)) sg_name (ss_if (st_not (st_B (se_call (_law_alike_len _) (sa_cons (se_op s2_ix se_var se_var) (sa_cons (se_op s2_ix se_var se_var) sa_nil))))) (ss_ret (se_c (v := .bl false) (d := .bl false) rv_bl)) ss_next))
    (ss_ret (se_c (v := .bl true) (d := .bl true) rv_bl)))))))))
theorem ok__law_all (T : Tx w K mg) (cel : Addr → Option Obj) (m : Nat) (hm : 20 ≤ m) (F : Fn) (hFl : ∀ ds S r, F ds S = some r → ds.length = 1) (hT : FnOk P w K mg base CX0 m T.a__law_told T.d__law_told ["_law_work"] (spOf K (gxo T cel) 1 F)) : FnOk P w K mg base CX0 (m + 1) T.a__law_all T.d__law_all ["_law_works", "_law_due"] (spOf K (gxo T cel) 2 (F_all F)) := by
  refine T.F__law_all.ok (k := m) sc__law_all sp_len (fun cdv A outer s H vs Q E hr h => ?_)
  refine' ⟨_, PSs.nox ?p, body_ok (N := N__law_all) (n := 2) (b := bAll F) ?s (by decide) h⟩
  case p => exact (pss_one (ps_ret (pe_cmpR (opEq K hr.units) (pe_lc (own := [("_law_work", 2)]) (g := (gName 2)) rfl sc__law_all.nd (piList K (pv 0)) (blkOk_by (own := [("_law_work", 2)]) (N := N__law_all) (sc := defScope s__law_all) (by decide +kernel)) (fun _ _ _ _ _ => (pg_name (i := 2) sc__law_all.nd rfl (Or.inl rfl))) (fun _ _ _ _ _ => (pts_one (pt_not (pt_val (pe_call (okc__law_alike T cel 8) (hr.mono (by omega)) rfl T.g__law_alike T.F__law_alike.kp (bd__law_alike T) .nil pass0 (pa_cons (pe_call hT (hr.mono (by omega)) rfl T.g__law_told T.F__law_told.kp (bd__law_told T) .nil pass0 (pa_cons (pv 2) pa_nil)) (pa_cons (pv 1) pa_nil))))))) (fun _ _ _ _ _ => (pv 2))) (pe_lst pa_nil) (nomark _))))
  case s => exact (ss_ret (se_op s2_eq (se_of (sf_lc (vs := [2]) (si_list se_var) (sp_name (by decide)) (st_not (st_B (se_call (_law_alike_len _) (sa_cons (se_call hFl (sa_cons se_var sa_nil)) (sa_cons se_var sa_nil))))) se_var)) (se_of (sf_lst sa_nil))))
theorem all_fn {X : Cx} (hP : X.prog = P) (hw : X.w = w) (hK : X.K = K) (hm : X.mg = mg) (hb : X.base = base) (T : Tx w K mg) (n : Nat) (hn : 18 ≤ n) (okX : X.Ok) (oc : Addr → Obj) (w1 : Wd) (cls : List (Addr × Rn)) (hc : ∀ f r, cls.lookup f = some r → Clo X (gx T) oc w1 n f r) : FnOk P w K mg base CX0 (n + 3) T.a__law_all T.d__law_all ["_law_works", "_law_due"] (spOf K ((gx T).on (CelsOf X) oc) 2 (F_all (FT w1 cls toldV))) := by
  subst hP hw hK hm hb
  obtain ⟨ts, hp, hsu⟩ := told_ok T
  exact ok__law_all T _ (n + 2) (by omega) _ ft_len (told_clo (G := gx T) (i := 1) T.F__law_told sc__law_told rfl (Or.inl rfl) rfl T.gx_HallError sc__law_told.nd rfl rfl (fun _ => rfl) (fun cdv A outer s H a oe cls d pn hr hz hf => hp _ _ _ _ _ _ _ _ _ _ _ _ (hr.mono (by omega)) hz hf) (hsu (((gx T).on (CelsOf X) oc).cel)) (fun _ => rfl) okX hc)
theorem bd__law_all_hear (T : Tx w K mg) : Binds K T.d__law_all_hear ["_law_hall", "_law_looks", "_law_texts"] [] := FunD.bindsN T.F__law_all_hear fun _ _ _ _ _ _ us hl => match us, hl with | [_, _, _], _ => rfl
theorem ok__law_all_hear (T : Tx w K mg) : FnOk P w K mg base CX0 7 T.a__law_all_hear T.d__law_all_hear ["_law_hall", "_law_looks", "_law_texts"] (spOf K (gx T) 3 F__law_all_hear) := by
  refine T.F__law_all_hear.ok (k := 6) sc__law_all_hear sp_len (fun cdv A outer s H vs Q E hr h => ?_)
  refine' ⟨_, PSs.nox ?p, body_ok (N := N__law_all_hear) (n := 3) (b := b__law_all_hear) ?s (by decide) h⟩
  case p => exact (pss_cons (ps_for PassesOwn.never rfl (piList K (pv 2)) (pg_name (i := 3) sc__law_all_hear.nd rfl (Or.inl rfl)) (pss_one (ps_expr (pe_meth (pv 0) T.cl_Hall T.me_Hall_hear (ok_Hall_hear T) (hr.mono (by decide)) (bd_Hall_hear T) .nil pass0 (pa_cons (pv 3) pa_nil)))))
    (pss_one (ps_for PassesOwn.never rfl (piList K (pe_meth0 (pv 0) T.cl_Hall T.me_Hall_letters (ok_Hall_letters T) (hr.mono (by decide)) (bd_Hall_letters T) .nil pass0)) (pgTup K rfl (pgs_cons (pg_name (i := 4) sc__law_all_hear.nd rfl (Or.inl rfl)) (pgs_cons (pg_name (i := 3) sc__law_all_hear.nd rfl (Or.inl rfl)) pgs_nil))) (pss_one (ps_for PassesOwn.never rfl (piList K (pv 1)) (pgTup K rfl (pgs_cons (pg_name (i := 5) sc__law_all_hear.nd rfl (Or.inl rfl)) (pgs_cons (pg_name (i := 6) sc__law_all_hear.nd rfl (Or.inl rfl)) (pgs_cons (pg_name (i := 7) sc__law_all_hear.nd rfl (Or.inl rfl)) pgs_nil)))) (pss_one (ps_expr (pe_meth (pv 5) T.cl_Look T.me_Look_hear (ok_Look_hear T) (hr.mono (by decide)) (bd_Look_hear T) .nil pass0 (pa_cons (pv 3) pa_nil)))))))))
  case s => exact (ss_seq (ss_for (si_list se_var) sg_name (ss_do (se_meth (c := 3) rfl nm_Hall_hear runB_len se_var (sa_cons se_var sa_nil))))
    (ss_for (si_listF (sf_meth (c := 3) rfl nm_Hall_letters runB_len se_var sa_nil)) (sg_tup (sgs_cons sg_name (sgs_cons sg_name sgs_nil))) (ss_forR se_var (sg_tup (sgs_cons sg_name (sgs_cons sg_name (sgs_cons sg_name sgs_nil)))) (ss_do (se_meth (c := 1) rfl nm_Look_hear runB_len se_var (sa_cons se_var sa_nil))))))
theorem bd__law_is_last (T : Tx w K mg) : Binds K T.d__law_is_last ["_law_hall", "_law_looks", "_law_name"] [] := FunD.bindsN T.F__law_is_last fun _ _ _ _ _ _ us hl => match us, hl with | [_, _, _], _ => rfl
theorem ok__law_is_last (T : Tx w K mg) (TB0 : LamX.TabB base mg (He.codeOf K ("_law_is_last", none)) (He.tabOf K (He.codeOf K ("_law_is_last", none)))) : FnOk P w K mg base CX0 28 T.a__law_is_last T.d__law_is_last ["_law_hall", "_law_looks", "_law_name"] (spOf K (gx T) 3 F__law_is_last) := by
  obtain ⟨ts, hp, hsu⟩ := told_ok T
  refine fun_okK T.F__law_is_last T.e__law_is_last (k := 27) sc__law_is_last sp_len (fun A outer s H vs Q E hr h => ?_)
  refine' ⟨_, PSs.nox ?p, body_ok (N := N__law_is_last) (n := 3) (b := b__law_is_last) ?s (by decide) h⟩
  case p => exact (pss_cons (ps_for PassesOwn.never rfl (pi_range1 rfl T.n_range (pa_cons pe_int pa_nil)) (pg_name (i := 3) sc__law_is_last.nd rfl (Or.inl rfl)) (pss_one (ps_for PassesOwn.never rfl (piList K (pv 1)) (pgTup K rfl (pgs_cons (pg_name (i := 4) sc__law_is_last.nd rfl (Or.inr rfl)) (pgs_cons (pg_name (i := 5) sc__law_is_last.nd rfl (Or.inr rfl)) (pgs_cons (pg_name (i := 6) sc__law_is_last.nd rfl (Or.inl rfl)) pgs_nil)))) (pss_one (ps_expr (pe_call (ok__law_all_hear T) (hr.mono (by decide)) rfl T.g__law_all_hear T.F__law_all_hear.kp (bd__law_all_hear T) .nil pass0 (pa_cons (pv 0) (pa_cons (pv 1) (pa_cons (pe_meth0 (pv 4) T.cl_Look T.me_Look_letters (ok_Look_letters T) (hr.mono (by decide)) (bd_Look_letters T) .nil pass0) pa_nil)))))))))
    (pss_cons (ps_for PassesOwn.never rfl (piList K (pe_slice (slList K) (pv 1) po_none (po_some (pe_un un_neg pe_int)))) (pgTup K rfl (pgs_cons (pg_name (i := 4) sc__law_is_last.nd rfl (Or.inr rfl)) (pgs_cons (pg_name (i := 5) sc__law_is_last.nd rfl (Or.inr rfl)) (pgs_cons (pg_name (i := 6) sc__law_is_last.nd rfl (Or.inl rfl)) pgs_nil)))) (pss_one (ps_if (PW.pt (pw_or (pt_cmpR op_notBl (pe_meth0 (pv 4) T.cl_Look T.me_Look_over (ok_Look_over T) (hr.mono (by decide)) (bd_Look_over T) .nil pass0) pe_bl (by rfl)) (pw_or (pt_cmpR (opNe K hr.units) (pe_meth0 (pv 4) T.cl_Look T.me_Look_letters (ok_Look_letters T) (hr.mono (by decide)) (bd_Look_letters T) .nil pass0) (pe_lst pa_nil) (nomark _)) (pw_or1 (pt_not (pt_val (pe_callB2 (fn_all (n := 20) (k := 20 + 3) (G := gx T) (g := T.a__law_all) (fd := T.d__law_all) (ps := ["_law_works", "_law_due"]) rfl (fun okX oc w1 cls hc => all_fn (P := P) (w := w) (K := K) (mg := mg) (base := base) rfl rfl rfl rfl rfl T 20 (by decide) okX oc w1 cls hc)) (hr.mono (by decide)) rfl T.g__law_all T.F__law_all.kp (bd__law_all T) (fun _ => rfl) (pa_cons (pe_lst (pa_cons (pe_lam0 TB0 rfl rfl (fun ok => (LamX.lamS_by (sc := defScope s__law_is_last) (by decide +kernel)).has ok)) pa_nil)) (pa_cons (pe_tup (pa_cons pe_str (pa_cons pe_int pa_nil))) pa_nil))))))))) (pss_one (ps_ret pe_bl)) pss_nil)))
    (pss_cons (ps_asg (pe_ix (ixSeq K) (pv 1) (pe_un un_neg pe_int) (fun _ _ => rfl)) (pgTup K rfl (pgs_cons (pg_name (i := 7) sc__law_is_last.nd rfl (Or.inl rfl)) (pgs_cons (pg_name (i := 5) sc__law_is_last.nd rfl (Or.inr rfl)) (pgs_cons (pg_name (i := 6) sc__law_is_last.nd rfl (Or.inl rfl)) pgs_nil)))))
    (pss_cons (ps_setLc (i := 8) (own := [("_law_who", 9), ("_law_one", 10), ("_law_sign", 11)]) (g := (gTup K 3 (gCons (gName 9) (gCons (gName 10) (gCons (gName 11) gNil))))) rfl sc__law_is_last.nd rfl rfl (sw_true rfl rfl rfl (by decide +kernel)) (piList K (pe_meth (pv 0) T.cl_Hall T.me_Hall_typed (ok_Hall_typed T) (hr.mono (by decide)) (bd_Hall_typed T) .nil pass0 (pa_cons pe_int pa_nil))) (blkOk_by (own := [("_law_who", 9), ("_law_one", 10), ("_law_sign", 11)]) (N := N__law_is_last) (sc := defScope s__law_is_last) (by decide +kernel)) (fun _ _ _ _ _ => (pgTup K rfl (pgs_cons (pg_name (i := 9) sc__law_is_last.nd rfl (Or.inl rfl)) (pgs_cons (pg_name (i := 10) sc__law_is_last.nd rfl (Or.inl rfl)) (pgs_cons (pg_name (i := 11) sc__law_is_last.nd rfl (Or.inl rfl)) pgs_nil))))) (fun _ _ _ _ _ => (pts_one (pt_cmpR (opEq K hr.units) (pv 10) (pv 5) (nomark _)))) (fun _ _ _ _ _ => (pv 11)))
    (pss_one (ps_ret (pe_and (pe_cmpR (opEq K hr.units) (peJoin K pe_str (pv 8)) (pv 6) (nomark _)) (pe_and (pe_not (pe_meth0 (pv 7) T.cl_Look T.me_Look_over (ok_Look_over T) (hr.mono (by decide)) (bd_Look_over T) .nil pass0)) (pe_and (pe_cmpR (opEq K hr.units) (pe_meth0 (pv 7) T.cl_Look T.me_Look_waiting (ok_Look_waiting T) (hr.mono (by decide)) (bd_Look_waiting T) .nil pass0) pe_int (nomark _)) (pe_one (pe_cmpR (opEq K hr.units) (pe_meth0 (pv 0) T.cl_Hall T.me_Hall_looks (ok_Hall_looks T) (hr.mono (by decide)) (bd_Hall_looks T) .nil pass0) (pe_lst (pa_cons (pe_tup (pa_cons (pv 2) (pa_cons (pv 5) (pa_cons pe_int pa_nil)))) pa_nil)) (nomark _))))))))))))
  case s => exact (ss_seq (ss_for (si_r1 (sa_cons (se_c (d := .int 12) rv_int) sa_nil)) sg_name (ss_forR se_var (sg_tup (sgs_cons sg_name (sgs_cons sg_name (sgs_cons sg_name sgs_nil)))) (ss_do (se_call runB_len (sa_cons se_var (sa_cons se_var (sa_cons (se_meth (c := 1) rfl nm_Look_letters runB_len se_var sa_nil) sa_nil)))))))
    (ss_seq (ss_for (si_listF (sf_sl s3f_sl se_var so_none (so_some (se_un s1_neg (se_c (d := .int 1) rv_int))))) (sg_tup (sgs_cons sg_name (sgs_cons sg_name (sgs_cons sg_name sgs_nil)))) (ss_if (st_or (st_test (se_op s2_notB (se_meth (c := 1) rfl nm_Look_over runB_len se_var sa_nil) (se_c (v := .bl true) (d := .bl true) rv_bl))) (st_or (st_test (se_op s2_ne (se_meth (c := 1) rfl nm_Look_letters runB_len se_var sa_nil) (se_of (sf_lst sa_nil)))) (st_not (st_B (se_allK (ds := [⟨_, _⟩]) rfl (fun _ => rfl) (.cons (lam_ok0 rfl rfl (LamX.lamS_by (sc := defScope s__law_is_last) (by decide +kernel)) (fun _ _ _ _ => rfl) (fun A outer s H E f c' hr => (pe_meth (pv 4) T.cl_Look T.me_Look_press (ok_Look_press T) (hr.mono (by decide)) (bd_Look_press T) .nil (passes_call (takes_of rfl rfl rfl rfl) (fun _ _ _ _ h => h)) (pa_cons pe_str pa_nil))) (fun E => (sex_meth (c := 1) rfl nm_Look_press runX_len (sex_of se_var) (sa_cons (se_c (d := .str [97]) (rv_str (by decide +kernel))) sa_nil)))) .nil) (se_tup (sa_cons (se_c (d := .str [78, 111, 76, 111, 111, 107]) (rv_str (by decide +kernel))) (sa_cons (se_c (d := .int 0) rv_int) sa_nil))) (Nat.le_of_ble_eq_true rfl)))))) (ss_ret (se_c (v := .bl false) (d := .bl false) rv_bl)) ss_next))
    (ss_seq (ss_asg (se_op s2_ix se_var (se_un s1_neg (se_c (d := .int 1) rv_int))) (sg_tup (sgs_cons sg_name (sgs_cons sg_name (sgs_cons sg_name sgs_nil)))))
    (ss_seq (ss_asg (se_of (sf_lc (vs := [9, 10, 11]) (si_listF (sf_meth (c := 3) rfl nm_Hall_typed runB_len se_var (sa_cons (se_c (d := .int 0) rv_int) sa_nil))) (sp_tup (sps_cons (sp_name (by decide)) (sps_cons (sp_name (by decide)) (sps_cons (sp_name (by decide)) sps_nil)))) (st_test (se_op s2_eq se_var se_var)) se_var)) sg_name)
    (ss_ret (se_and (se_op s2_eq (se_tm1 sm_joinR (se_c (d := .str []) (rv_str (by decide +kernel))) se_var) se_var) (se_and (se_not (se_meth (c := 1) rfl nm_Look_over runB_len se_var sa_nil)) (se_and (se_op s2_eq (se_meth (c := 1) rfl nm_Look_waiting runB_len se_var sa_nil) (se_c (d := .int 0) rv_int)) (se_op s2_eq (se_meth (c := 3) rfl nm_Hall_looks runB_len se_var sa_nil) (se_of (sf_lst (sa_cons (se_tup (sa_cons se_var (sa_cons se_var (sa_cons (se_c (d := .int 0) rv_int) sa_nil)))) sa_nil))))))))))))
theorem ok_law (T : Tx w K mg) (TB0 : LamX.TabB base mg (He.codeOf K ("_law_is_last", none)) (He.tabOf K (He.codeOf K ("_law_is_last", none)))) : FnOk P w K mg base CX0 29 T.a_law T.d_law ["_law_script"] (spOf K (gx T) 1 F_law) := by
  refine T.F_law.ok (k := 28) sc_law sp_len (fun cdv A outer s H vs Q E hr h => ?_)
  refine' ⟨_, PSs.nox ?p, body_ok (N := N_law) (n := 1) (b := b_law) ?s (by decide) h⟩
  case p => exact (pss_cons (ps_set (i := 1) sc_law.nd rfl (Or.inl rfl) (pe_call (ok__law_begun T) (hr.mono (by decide)) rfl T.g__law_begun T.F__law_begun.kp (bd__law_begun T) .nil pass0 (pa_cons (pv 0) pa_nil)))
    (pss_cons (ps_par (i := 2) (j := 3) rfl sc_law.nd rfl rfl (by decide) rfl rfl (pa_cons (pe_make (M := T.mk_Hall) (ok_Hall___init__ T) (hr.mono (by decide)) rfl T.gc_Hall (bd_Hall___init__ T) .nil pass0 (pa_cons pe_int pa_nil)) (pa_cons (pe_call (ok__law_take T) (hr.mono (by decide)) rfl T.g__law_take T.F__law_take.kp (bd__law_take T) .nil pass0 (pa_cons (pv 1) (pa_cons pe_int pa_nil))) pa_nil)) rfl)
    (pss_cons (ps_par3 (i := 4) (j := 5) (l := 6) rfl sc_law.nd rfl rfl rfl (by decide) (by decide) (by decide) rfl rfl rfl (pa_cons (pe_lst pa_nil) (pa_cons (pe_lst pa_nil) (pa_cons (pe_lst pa_nil) pa_nil))) rfl)
    (pss_cons (ps_set (i := 7) sc_law.nd rfl (Or.inr rfl) pe_int)
    (pss_cons (ps_for PassesOwn.never rfl (pi_range1 rfl T.n_range (pa_cons (pe_op (opAdd K) pe_int (pe_call (ok__law_take T) (hr.mono (by decide)) rfl T.g__law_take T.F__law_take.kp (bd__law_take T) .nil pass0 (pa_cons (pv 1) (pa_cons pe_int pa_nil)))) pa_nil)) (pg_name (i := 8) sc_law.nd rfl (Or.inl rfl)) (pss_cons (ps_set (i := 7) sc_law.nd rfl (Or.inr rfl) (pe_op (opAdd K) (pe_op (opAdd K) (pv 7) pe_int) (pe_call (ok__law_take T) (hr.mono (by decide)) rfl T.g__law_take T.F__law_take.kp (bd__law_take T) .nil pass0 (pa_cons (pv 1) (pa_cons (pe_ix (ixSeq K) (pe_lst (pa_cons pe_int (pa_cons pe_int (pa_cons pe_int pa_nil)))) (pe_call (ok__law_take T) (hr.mono (by decide)) rfl T.g__law_take T.F__law_take.kp (bd__law_take T) .nil pass0 (pa_cons (pv 1) (pa_cons pe_int pa_nil))) (fun _ _ => rfl)) pa_nil)))))
    (pss_cons (ps_set (i := 9) sc_law.nd rfl (Or.inl rfl) (pe_slice (slAny K) pe_str po_none (po_some (pe_call (ok__law_take T) (hr.mono (by decide)) rfl T.g__law_take T.F__law_take.kp (bd__law_take T) .nil pass0 (pa_cons (pv 1) (pa_cons pe_int pa_nil))))))
    (pss_cons (ps_expr (peBm K PySem.F.plainAttrs_list PySem.F.slot_list_append PySem.F.type_list_append mt_append (pv 4) (pa_cons (pe_tup (pa_cons (pe_make (M := T.mk_Look) (ok_Look___init__ T) (hr.mono (by decide)) rfl T.gc_Look (bd_Look___init__ T) .nil pass0 (pa_cons (pv 3) (pa_cons (pv 7) (pa_cons pe_int (pa_cons pe_int (pa_cons pe_int pa_nil)))))) (pa_cons (pv 7) (pa_cons (pv 9) pa_nil)))) pa_nil)))
    (pss_cons (ps_expr (pe_meth (pe_ix (ixSeq K) (pe_ix (ixSeq K) (pv 4) (pe_un un_neg pe_int) (fun _ _ => rfl)) pe_int (fun _ _ => rfl)) T.cl_Look T.me_Look_press_o (ok_Look_press_o T) (hr.mono (by decide)) (bd_Look_press_o T) .nil pass0 (pa_cons (pv 9) pa_nil)))
    (pss_cons (ps_set (i := 10) sc_law.nd rfl (Or.inl rfl) (pe_lst pa_nil))
    (pss_cons (ps_for PassesOwn.never rfl (pi_range1 rfl T.n_range (pa_cons (pe_call (ok__law_take T) (hr.mono (by decide)) rfl T.g__law_take T.F__law_take.kp (bd__law_take T) .nil pass0 (pa_cons (pv 1) (pa_cons pe_int pa_nil))) pa_nil)) (pg_name (i := 11) sc_law.nd rfl (Or.inl rfl)) (pss_cons (ps_set (i := 10) sc_law.nd rfl (Or.inl rfl) (pe_op op_cat (pv 10) (pe_meth0 (pe_ix (ixSeq K) (pe_ix (ixSeq K) (pv 4) (pe_un un_neg pe_int) (fun _ _ => rfl)) pe_int (fun _ _ => rfl)) T.cl_Look T.me_Look_letters (ok_Look_letters T) (hr.mono (by decide)) (bd_Look_letters T) .nil pass0)))
    (pss_one (ps_if (pt_cmpR (opEq K hr.units) (pe_call (ok__law_take T) (hr.mono (by decide)) rfl T.g__law_take T.F__law_take.kp (bd__law_take T) .nil pass0 (pa_cons (pv 1) (pa_cons pe_int pa_nil))) pe_int (nomark _)) (pss_one (ps_expr (pe_call (ok__law_all_hear T) (hr.mono (by decide)) rfl T.g__law_all_hear T.F__law_all_hear.kp (bd__law_all_hear T) .nil pass0 (pa_cons (pv 2) (pa_cons (pv 4) (pa_cons (pe_op op_cat (pv 10) (pv 6)) pa_nil)))))) pss_nil))))
    (pss_cons (ps_set (i := 6) sc_law.nd rfl (Or.inl rfl) (pe_op op_cat (pv 6) (pv 10)))
    (pss_cons (ps_setLc (i := 12) (own := [("_law_who", 13), ("_law_one", 14), ("_law_sign", 15)]) (g := (gTup K 3 (gCons (gName 13) (gCons (gName 14) (gCons (gName 15) gNil))))) rfl sc_law.nd rfl rfl (sw_true rfl rfl rfl (by decide +kernel)) (piList K (pe_meth (pv 2) T.cl_Hall T.me_Hall_typed (ok_Hall_typed T) (hr.mono (by decide)) (bd_Hall_typed T) .nil pass0 (pa_cons pe_int pa_nil))) (blkOk_by (own := [("_law_who", 13), ("_law_one", 14), ("_law_sign", 15)]) (N := N_law) (sc := defScope s_law) (by decide +kernel)) (fun _ _ _ _ _ => (pgTup K rfl (pgs_cons (pg_name (i := 13) sc_law.nd rfl (Or.inl rfl)) (pgs_cons (pg_name (i := 14) sc_law.nd rfl (Or.inl rfl)) (pgs_cons (pg_name (i := 15) sc_law.nd rfl (Or.inl rfl)) pgs_nil))))) (fun _ _ _ _ _ => pts_nil) (fun _ _ _ _ _ => (pe_tup (pa_cons (pv 14) (pa_cons (pv 15) pa_nil)))))
    (pss_cons (ps_setLc (i := 16) (own := [("_law_one", 14), ("_law_sign", 15)]) (g := (gTup K 2 (gCons (gName 14) (gCons (gName 15) gNil)))) rfl sc_law.nd rfl rfl (sw_true rfl rfl rfl (by decide +kernel)) (piList K (pv 12)) (blkOk_by (own := [("_law_one", 14), ("_law_sign", 15)]) (N := N_law) (sc := defScope s_law) (by decide +kernel)) (fun _ _ _ _ _ => (pgTup K rfl (pgs_cons (pg_name (i := 14) sc_law.nd rfl (Or.inl rfl)) (pgs_cons (pg_name (i := 15) sc_law.nd rfl (Or.inl rfl)) pgs_nil)))) (fun _ _ _ _ _ => (pts_one (pt_cmpR (opEq K hr.units) (pv 14) (pv 7) (nomark _)))) (fun _ _ _ _ _ => (pv 15)))
    (pss_cons (ps_if (PW.pt (pw_or (pt_cmpR (opNe K hr.units) (pe_slice (slList K) (pv 12) po_none (po_some (pe_callB (callLen K) rfl T.n_len (by decide +kernel) (pa_cons (pv 5) pa_nil)))) (pv 5) (nomark _)) (pw_or1 (pt_cmpR (opNe K hr.units) (pe_lc (own := [("_law_one", 14), ("_law_sign", 15)]) (g := (gTup K 2 (gCons (gName 14) (gCons (gName 15) gNil)))) rfl sc_law.nd (piList K (pe_slice (slList K) (pv 12) (po_some (pe_callB (callLen K) rfl T.n_len (by decide +kernel) (pa_cons (pv 5) pa_nil))) po_none)) (blkOk_by (own := [("_law_one", 14), ("_law_sign", 15)]) (N := N_law) (sc := defScope s_law) (by decide +kernel)) (fun _ _ _ _ _ => (pgTup K rfl (pgs_cons (pg_name (i := 14) sc_law.nd rfl (Or.inl rfl)) (pgs_cons (pg_name (i := 15) sc_law.nd rfl (Or.inl rfl)) pgs_nil)))) (fun _ _ _ _ _ => (pts_one (pt_cmpR (opNe K hr.units) (pv 14) (pv 7) (nomark _)))) (fun _ _ _ _ _ => (pv 14))) (pe_lst pa_nil) (nomark _))))) (pss_one (ps_ret pe_bl)) pss_nil)
    (pss_cons (ps_if (pt_cmpR (opNe K hr.units) (peJoin K pe_str (pv 16)) (pe_slice (slAny K) (pv 9) po_none (po_some (pe_callB (callLen K) rfl T.n_len (by decide +kernel) (pa_cons (pv 16) pa_nil)))) (nomark _)) (pss_one (ps_ret pe_bl)) pss_nil)
    (pss_one (ps_set (i := 5) sc_law.nd rfl (Or.inl rfl) (pv 12)))))))))))))))
    (pss_one (ps_ret (pe_call (ok__law_is_last T TB0) (hr.mono (by decide)) rfl T.g__law_is_last T.F__law_is_last.kp (bd__law_is_last T) .nil pass0 (pa_cons (pv 2) (pa_cons (pv 4) (pa_cons (pv 3) pa_nil)))))))))))
  case s => exact (ss_seq (ss_asg (se_call runB_len (sa_cons se_var sa_nil)) sg_name)
    (ss_seq (ss_par (by decide) (se_make (c := 3) rfl runB_len (sa_cons (se_c (d := .int 1) rv_int) sa_nil)) (se_call runB_len (sa_cons se_var (sa_cons (se_c (d := .int 4) rv_int) sa_nil))))
    (ss_seq (ss_par3 (se_own (sf_lst sa_nil)) (se_of (sf_lst sa_nil)) (se_of (sf_lst sa_nil)))
    (ss_seq (ss_asg (se_c (d := .int 0) rv_int) sg_name)
    (ss_seq (ss_for (si_r1 (sa_cons (se_op s2_add (se_c (d := .int 1) rv_int) (se_call runB_len (sa_cons se_var (sa_cons (se_c (d := .int 6) rv_int) sa_nil)))) sa_nil)) sg_name (ss_seq (ss_asg (se_op s2_add (se_op s2_add se_var (se_c (d := .int 1) rv_int)) (se_call runB_len (sa_cons se_var (sa_cons (se_op s2_ix (se_of (sf_lst (sa_cons (se_c (d := .int 1) rv_int) (sa_cons (se_c (d := .int 9) rv_int) (sa_cons (se_c (d := .int 16000) rv_int) sa_nil))))) (se_call runB_len (sa_cons se_var (sa_cons (se_c (d := .int 3) rv_int) sa_nil)))) sa_nil)))) sg_name)
    (ss_seq (ss_asg (se_sl s3_sl (se_c (d := .str [97, 98, 99, 100, 101, 102, 103, 104, 105, 106]) (rv_str (by decide +kernel))) so_none (so_some (se_call runB_len (sa_cons se_var (sa_cons (se_c (d := .int 11) rv_int) sa_nil))))) sg_name)
    (ss_seq (ss_do (se_bm sm_append se_var (sa_cons (se_tup (sa_cons (se_make (c := 1) rfl runB_len (sa_cons se_var (sa_cons se_var (sa_cons (se_c (d := .int 0) rv_int) (sa_cons (se_c (d := .int 20) rv_int) (sa_cons (se_c (d := .int 5) rv_int) sa_nil)))))) (sa_cons se_var (sa_cons se_var sa_nil)))) sa_nil)))
    (ss_seq (ss_do (se_meth (c := 1) rfl nm_Look_press_o runB_len (se_op s2_ix (se_op s2_ix se_var (se_un s1_neg (se_c (d := .int 1) rv_int))) (se_c (d := .int 0) rv_int)) (sa_cons se_var sa_nil)))
    (ss_seq (ss_asg (se_of (sf_lst sa_nil)) sg_name)
    (ss_seq (ss_for (si_r1 (sa_cons (se_call runB_len (sa_cons se_var (sa_cons (se_c (d := .int 4) rv_int) sa_nil))) sa_nil)) sg_name (ss_seq (ss_asg (se_of (sf_op s2f_cat se_var (se_meth (c := 1) rfl nm_Look_letters runB_len (se_op s2_ix (se_op s2_ix se_var (se_un s1_neg (se_c (d := .int 1) rv_int))) (se_c (d := .int 0) rv_int)) sa_nil))) sg_name)
    (ss_if (st_test (se_op s2_eq (se_call runB_len (sa_cons se_var (sa_cons (se_c (d := .int 2) rv_int) sa_nil))) (se_c (d := .int 0) rv_int))) (ss_do (se_call runB_len (sa_cons se_var (sa_cons se_var (sa_cons (se_of (sf_op s2f_cat se_var se_var)) sa_nil))))) ss_next)))
    (ss_seq (ss_asg (se_of (sf_op s2f_cat se_var se_var)) sg_name)
    (ss_seq (ss_asg (se_of (sf_lc (vs := [13, 14, 15]) (si_listF (sf_meth (c := 3) rfl nm_Hall_typed runB_len se_var (sa_cons (se_c (d := .int 0) rv_int) sa_nil))) (sp_tup (sps_cons (sp_name (by decide)) (sps_cons (sp_name (by decide)) (sps_cons (sp_name (by decide)) sps_nil)))) st_yes (se_tup (sa_cons se_var (sa_cons se_var sa_nil))))) sg_name)
    (ss_seq (ss_asg (se_of (sf_lc (vs := [14, 15]) (si_list se_var) (sp_tup (sps_cons (sp_name (by decide)) (sps_cons (sp_name (by decide)) sps_nil))) (st_test (se_op s2_eq se_var se_var)) se_var)) sg_name)
    (ss_seq (ss_if (st_or (st_test (se_op s2_ne (se_of (sf_sl s3f_sl se_var so_none (so_some (se_n sn_len (sa_cons se_var sa_nil))))) se_var)) (st_test (se_op s2_ne (se_of (sf_lc (vs := [14, 15]) (si_listF (sf_sl s3f_sl se_var (so_some (se_n sn_len (sa_cons se_var sa_nil))) so_none)) (sp_tup (sps_cons (sp_name (by decide)) (sps_cons (sp_name (by decide)) sps_nil))) (st_test (se_op s2_ne se_var se_var)) se_var)) (se_of (sf_lst sa_nil))))) (ss_ret (se_c (v := .bl false) (d := .bl false) rv_bl)) ss_next)
    (ss_seq (ss_if (st_test (se_op s2_ne (se_tm1 sm_joinR (se_c (d := .str []) (rv_str (by decide +kernel))) se_var) (se_sl s3_sl se_var so_none (so_some (se_n sn_len (sa_cons se_var sa_nil)))))) (ss_ret (se_c (v := .bl false) (d := .bl false) rv_bl)) ss_next)
    (ss_asg se_var sg_name)))))))))))))
    (ss_ret (se_call runB_len (sa_cons se_var (sa_cons se_var (sa_cons se_var sa_nil))))))))))
end
end K12
set_option maxRecDepth 100000
set_option maxHeartbeats 4000000
namespace K12
open AH PySem L2 TL
abbrev dgs : List Nat := [97, 98, 99, 100, 101, 102, 103, 104, 105, 106]
theorem dg_an : ∀ c ∈ dgs, c ∈ an ∧ c ∈ sg ∧ c ≠ 59 ∧ c ≠ 60 := by decide
structure PL (p : PV) : Prop where
  kp : p.kept = []
  pg : Pg p
  tt : ∀ c ∈ p.text, c ∈ sg
  pa : ∀ q ∈ p.past, q.1 = wLine ∧ tx 60 q.2
  mn : p.many ≤ p.notes.length
theorem PL.zero : PL p0 := ⟨rfl, Pg.zero, nofun, nofun, Nat.le_refl _⟩
theorem lastN_all {α : Type} {xs : List α} {n : Nat} (h : xs.length ≤ n) : lastN n xs = xs := by
  unfold lastN
  rw [show xs.length - n = 0 by omega]
  rfl
theorem PL.press {p : PV} (g : PL p) {n s c : Nat} (hc : c ∈ dgs) (hl : p.notes.length < 100) : PL (pressV p (noteD n s c) c) ∧ (pressV p (noteD n s c) c).notes = p.notes ++ [noteD n s c] := by
  obtain ⟨h1, h2, h3, h4⟩ := dg_an c hc
  have pg := g.pg.press (a := .int n) (b := .int s) h1
  have en : lastN 100 (p.notes ++ [noteD n s c]) = p.notes ++ [noteD n s c] := lastN_all (by rw [List.length_append, List.length_singleton]; omega)
  have e : pressV p (noteD n s c) c = if p.text.length < 30 then chg { p with notes := p.notes ++ [noteD n s c] } wLine (p.text ++ [c]) else { p with notes := p.notes ++ [noteD n s c] } := by
    unfold pressV ptV
    rw [if_neg h3, if_neg h4, en]
  have ml : p.many + 1 ≤ (p.notes ++ [noteD n s c]).length := by
    rw [List.length_append, List.length_singleton]
    have := g.mn
    omega
  have ts : ∀ x ∈ p.text ++ [c], x ∈ sg := fun x hx => (List.mem_append.mp hx).elim (g.tt x) fun hx => by
    rw [List.mem_singleton.mp hx]
    exact h2
  by_cases q : p.text.length < 30
  · rw [if_pos q] at e
    rw [e]
    have pg : Pg (chg { p with notes := p.notes ++ [noteD n s c] } wLine (p.text ++ [c])) := by rw [← e]; exact pg
    refine ⟨⟨?_, pg, ?_, ?_, ml⟩, rfl⟩
    · show (ap (p.kept, p.text) (wLine, p.text ++ [c])).1 = []
      unfold ap
      rw [if_pos rfl]
      exact g.kp
    · show ∀ x ∈ (ap (p.kept, p.text) (wLine, p.text ++ [c])).2, x ∈ sg
      unfold ap
      rw [if_pos rfl]
      exact ts
    · intro x hx
      rcases List.mem_append.mp (lastN_mem hx) with hx | hx
      · exact g.pa x hx
      · rw [List.mem_singleton.mp hx]
        exact ⟨rfl, by rw [List.length_append, List.length_singleton]; omega, ts⟩
  · rw [if_neg q] at e
    rw [e]
    have pg : Pg { p with notes := p.notes ++ [noteD n s c] } := by rw [← e]; exact pg
    exact ⟨⟨g.kp, pg, g.tt, g.pa, Nat.le_of_succ_le ml⟩, rfl⟩
theorem tkz_new {n s : Nat} : ∀ {z : List Nat} {p : PV} {d : Nat}, PL p → (∀ c ∈ z, c ∈ dgs) → p.notes.length + z.length ≤ 100 → PL (tkz n s p d d z).1 ∧ (tkz n s p d d z).2.1 = d + z.length ∧ (tkz n s p d d z).1.notes = p.notes ++ z.map (noteD n s)
  | [], p, d, g, h, l => ⟨g, rfl, by simp [tkz]⟩
  | c :: z, p, d, g, h, l => by
    rw [List.length_cons] at l
    obtain ⟨g1, e1⟩ := g.press (n := n) (s := s) (h c List.mem_cons_self) (by omega)
    have e : tkz n s p d d (c :: z) = tkz n s (pressV p (noteD n s c) c) (d + 1) (d + 1) z := by
      show List.foldl _ (stp n s (p, d, d) c) z = _
      unfold stp
      rw [if_pos rfl]
      rfl
    rw [e]
    obtain ⟨i1, i2, i3⟩ := tkz_new (n := n) (s := s) (z := z) (d := d + 1) g1 (fun x hx => h x (List.mem_cons_of_mem _ hx)) (by rw [e1, List.length_append, List.length_singleton]; omega)
    refine ⟨i1, by rw [i2, List.length_cons]; omega, ?_⟩
    rw [i3, e1, List.append_assoc]
    rfl
theorem tkz_old {n s : Nat} : ∀ {z : List Nat} {p : PV} {d f : Nat}, f + z.length ≤ d → (tkz n s p d f z).1 = p ∧ (tkz n s p d f z).2.1 = d
  | [], p, d, f, l => ⟨rfl, rfl⟩
  | c :: z, p, d, f, l => by
    rw [List.length_cons] at l
    have e : tkz n s p d f (c :: z) = tkz n s p d (f + 1) z := by
      show List.foldl _ (stp n s (p, d, f) c) z = _
      unfold stp
      rw [if_neg (show ¬ f = d by omega)]
      rfl
    rw [e]
    exact tkz_old (by omega)
abbrev SZ := Nat × List Nat
def nts (n : Nat) (H : List SZ) : List D := H.flatMap fun q => q.2.map (noteD n q.1)
structure Bs (B : List SZ) : Prop where
  b : ∀ q ∈ B, q.1 < mil ∧ q.2.length ≤ 10 ∧ ∀ c ∈ q.2, c ∈ dgs
  up : B.Pairwise (fun a b => a.1 < b.1)
  six : B.length ≤ 6
theorem up_inj {B : List SZ} (h : B.Pairwise (fun a b => a.1 < b.1)) {a b : SZ} (ha : a ∈ B) (hb : b ∈ B) (e : a.1 = b.1) : a = b := by
  induction B with
  | nil => cases ha
  | cons c B ih =>
    rw [List.pairwise_cons] at h
    rcases List.mem_cons.mp ha with e1 | h1
    · rcases List.mem_cons.mp hb with e2 | h2
      · rw [e1, e2]
      · have := h.1 b h2
        rw [e1] at e
        omega
    · rcases List.mem_cons.mp hb with e2 | h2
      · have := h.1 a h1
        rw [e2] at e
        omega
      · exact ih h.2 h1 h2
theorem up_nd {B : List SZ} (h : B.Pairwise (fun a b => a.1 < b.1)) : B.Nodup := h.imp fun {a b} z e => by
  rw [e] at z
  exact Nat.lt_irrefl _ z
theorem nds {α : Type} [BEq α] [LawfulBEq α] : ∀ {a b : List α}, a.Nodup → (∀ x ∈ a, x ∈ b) → a.length ≤ b.length
  | [], b, _, _ => Nat.zero_le _
  | x :: a, b, nd, h => by
    rw [List.nodup_cons] at nd
    have hx := h x List.mem_cons_self
    have := nds (a := a) (b := b.erase x) nd.2 fun y hy => (List.mem_erase_of_ne (fun e => nd.1 (by rw [← e]; exact hy))).mpr (h y (List.mem_cons_of_mem _ hy))
    rw [List.length_erase_of_mem hx] at this
    have := List.length_pos_of_mem hx
    rw [List.length_cons]
    omega
structure GI (n : Nat) (B : List SZ) (h : HP) (H : List SZ) : Prop where
  n3 : n ≤ 3
  pn : ∃ p, h.ps = [p] ∧ PL p ∧ p.notes = nts n H
  se : (h.ss = [] ∧ H = []) ∨ ∃ k q H0, h.ss = [(n, ⟨q.1, 0, q.2.length, k, true⟩)] ∧ H = H0 ++ [q] ∧ ∀ x, k = some x → x < mil
  up : H.Pairwise (fun a b => a.1 < b.1)
  hB : ∀ q ∈ H, q ∈ B
theorem GI.len {n : Nat} {B : List SZ} {h : HP} {H : List SZ} (b : Bs B) (g : GI n B h H) : H.length ≤ 6 := Nat.le_trans (nds (up_nd g.up) g.hB) b.six
theorem nts_len {n k : Nat} : ∀ {H : List SZ}, (∀ q ∈ H, q.2.length ≤ k) → (nts n H).length ≤ k * H.length
  | [], _ => Nat.zero_le _
  | q :: H, h => by
    have := nts_len (n := n) (H := H) fun x hx => h x (List.mem_cons_of_mem _ hx)
    have := h q List.mem_cons_self
    show ((q.2.map (noteD n q.1)) ++ nts n H).length ≤ _
    rw [List.length_append, List.length_map, List.length_cons, Nat.mul_succ]
    omega
theorem nts_app {n : Nat} {H H' : List SZ} : nts n (H ++ H') = nts n H ++ nts n H' := List.flatMap_append
theorem nts_one {n : Nat} {q : SZ} : nts n [q] = q.2.map (noteD n q.1) := by
  show _ ++ [] = _
  rw [List.append_nil]
theorem GI.nl {n : Nat} {B : List SZ} {h : HP} {H : List SZ} (b : Bs B) (g : GI n B h H) : (nts n H).length ≤ 60 := by
  have h1 := nts_len (n := n) (k := 10) (H := H) fun q hq => (b.b q (g.hB q hq)).2.1
  have h2 := g.len b
  omega
def nxt (H : List SZ) (q : SZ) : List SZ := if ∀ a ∈ H, a.1 < q.1 then H ++ [q] else H
/-- a letter of a look's -/
structure LtB (n : Nat) (B H : List SZ) (m : LM) (q : SZ) : Prop where
  hq : q ∈ B
  m : ∃ k f z, m = .at n q.1 0 k f z ∧ (∀ x, k = some x → x < mil) ∧ ((f = 0 ∧ z = q.2) ∨ (f = q.2.length ∧ z = [] ∧ q ∈ H))
theorem LtB.ok {n : Nat} {B H : List SZ} {m : LM} {q : SZ} (b : Bs B) (hn : n ≤ 3) (g : LtB n B H m q) : LMok m := by
  obtain ⟨k, f, z, rfl, hk, c⟩ := g.m
  obtain ⟨b1, b2, b3⟩ := b.b q g.hq
  refine ⟨by show n < 1000000; omega, b1, by decide, hk, ?_, ?_, ?_⟩
  · rcases c with ⟨rfl, _⟩ | ⟨rfl, _⟩
    · decide
    · show _ < 1000000; omega
  · rcases c with ⟨_, rfl⟩ | ⟨_, rfl, _⟩
    · omega
    · exact Nat.zero_le _
  · rcases c with ⟨_, rfl⟩ | ⟨_, rfl, _⟩
    · exact fun c hc => (dg_an c (b3 c hc)).1
    · nofun
theorem LtB.mono {n : Nat} {B B' H H' : List SZ} {m : LM} {q : SZ} (g : LtB n B H m q) (hb : ∀ q ∈ B, q ∈ B') (hh : ∀ q ∈ H, q ∈ H') : LtB n B' H' m q := by
  obtain ⟨k, f, z, e, hk, c⟩ := g.m
  exact ⟨hb _ g.hq, k, f, z, e, hk, c.imp id fun c => ⟨c.1, c.2.1, hh _ c.2.2⟩⟩
theorem nxt_sub {H : List SZ} {q : SZ} : ∀ a ∈ H, a ∈ nxt H q := fun a ha => by
  unfold nxt
  split
  · exact List.mem_append_left _ ha
  · exact ha
theorem mxk_lt {a b : Option Nat} (ha : ∀ x, a = some x → x < mil) (hb : ∀ x, b = some x → x < mil) : ∀ x, mxk a b = some x → x < mil := by
  intro x hx
  unfold mxk at hx
  split at hx
  · exact ha x hx
  · rename_i y
    split at hx
    · exact hb x hx
    · split at hx
      · exact hb x hx
      · exact ha x hx
theorem GI.hear {n : Nat} {B : List SZ} {h : HP} {H : List SZ} {m : LM} {q : SZ} (b : Bs B) (g : GI n B h H) (l : LtB n B H m q) : GI n B (h.hear m) (nxt H q) := by
  obtain ⟨k, f, z, rfl, hk, c⟩ := l.m
  obtain ⟨p, ep, gp, en⟩ := g.pn
  have nl := g.nl b
  have b1 := b.b q l.hq
  have ip : ¬ h.ps.length ≤ 0 := by rw [ep]; exact Nat.not_succ_le_zero 0
  have fresh : (∀ a ∈ H, a.1 < q.1) → h.sat (.at n q.1 0 k f z) = .new q.1 0 → (∀ v, sput n v h.ss = [(n, v)]) → GI n B (h.hear (.at n q.1 0 k f z)) (nxt H q) := by
    intro ha es sp
    have nq : q ∉ H := fun hq => Nat.lt_irrefl _ (ha q hq)
    obtain ⟨rfl, rfl⟩ : f = 0 ∧ z = q.2 := c.elim id fun c => absurd c.2.2 nq
    unfold nxt
    rw [if_pos ha, hear_at ip (by rw [es]; exact fun z => z.elim (Nat.lt_irrefl _) nofun), es]
    obtain ⟨i1, i2, i3⟩ := tkz_new (n := n) (s := q.1) (z := q.2) (d := 0) gp b1.2.2 (by rw [en]; omega)
    unfold HP.take
    have e0 : (h.ps[(SV.new q.1 0).p]?).getD p0 = p := by rw [ep]; rfl
    rw [e0, ep, sp]
    refine ⟨g.n3, ⟨_, rfl, i1, ?_⟩, .inr ⟨mxk none k, q, H, ?_, rfl, mxk_lt nofun hk⟩, ?_, ?_⟩
    · rw [nts_app, nts_one, ← en]
      exact i3
    · show [(n, (⟨q.1, 0, (tkz n q.1 p 0 0 q.2).2.1, _, true⟩ : SV))] = _
      rw [i2, Nat.zero_add]
      rfl
    · rw [List.pairwise_append]
      exact ⟨g.up, List.pairwise_singleton _ _, fun a h1 x hx => by rw [List.mem_singleton.mp hx]; exact ha a h1⟩
    · intro x hx
      rcases List.mem_append.mp hx with hx | hx
      · exact g.hB x hx
      · rw [List.mem_singleton.mp hx]
        exact l.hq
  rcases g.se with ⟨e1, rfl⟩ | ⟨k0, q0, H0, e1, eH, hk0⟩
  · refine fresh (fun a ha => nomatch ha) ?_ fun v => ?_
    · unfold HP.sat
      rw [e1]
      rfl
    · rw [e1]
      rfl
  · have eg : sget n h.ss = some ⟨q0.1, 0, q0.2.length, k0, true⟩ := by
      rw [e1]
      show (if n = n then _ else _) = _
      rw [if_pos rfl]
    have sp : ∀ v, sput n v h.ss = [(n, v)] := fun v => by
      rw [e1]
      show (if n = n then _ else _) = _
      rw [if_pos rfl]
    have hq0 : q0 ∈ H := by rw [eH]; simp
    have mx : ∀ a ∈ H, a.1 ≤ q0.1 := fun a ha => by
      have u := g.up
      rw [eH, List.pairwise_append] at u
      rw [eH] at ha
      rcases List.mem_append.mp ha with ha | ha
      · exact Nat.le_of_lt (u.2.2 a ha q0 (List.mem_singleton_self _))
      · rw [List.mem_singleton.mp ha]
        exact Nat.le_refl _
    have es : h.sat (.at n q.1 0 k f z) = if q0.1 < q.1 then .new q.1 0 else ⟨q0.1, 0, q0.2.length, k0, true⟩ := by
      unfold HP.sat
      show (match sget n h.ss with | some v => _ | none => _) = _
      rw [eg]
      rfl
    rcases Nat.lt_trichotomy q0.1 q.1 with c1 | c1 | c1
    · exact fresh (fun a ha => Nat.lt_of_le_of_lt (mx a ha) c1) (by rw [es, if_pos c1]) sp
    · have eq : q0 = q := up_inj b.up (g.hB q0 hq0) l.hq c1
      subst eq
      rw [if_neg (Nat.lt_irrefl _)] at es
      have en' : nxt H q0 = H := if_neg fun z => Nat.lt_irrefl _ (z q0 hq0)
      rw [en', hear_at ip (by rw [es]; exact fun z => z.elim (Nat.lt_irrefl _) nofun), es]
      have fl : f + z.length ≤ q0.2.length := by
        rcases c with ⟨rfl, rfl⟩ | ⟨rfl, rfl, _⟩
        · omega
        · exact Nat.le_refl _
      obtain ⟨i1, i2⟩ := tkz_old (n := n) (s := q0.1) (p := p) fl
      unfold HP.take
      have e0 : (h.ps[(⟨q0.1, 0, q0.2.length, k0, true⟩ : SV).p]?).getD p0 = p := by rw [ep]; rfl
      rw [e0, ep, sp]
      refine ⟨g.n3, ⟨p, ?_, gp, en⟩, .inr ⟨mxk k0 k, q0, H0, ?_, eH, mxk_lt hk0 hk⟩, g.up, g.hB⟩
      · show [(tkz n q0.1 p q0.2.length f z).1] = _
        rw [i1]
      · show [(n, (⟨q0.1, 0, (tkz n q0.1 p q0.2.length f z).2.1, _, true⟩ : SV))] = _
        rw [i2]
    · rw [if_neg (Nat.lt_asymm c1)] at es
      have en' : nxt H q = H := if_neg fun z => Nat.lt_asymm c1 (z q0 hq0)
      rw [en', hear_over ip (.inl (by rw [es]; exact c1)), es, show (LM.at n q.1 0 k f z).n = n from rfl, sp]
      exact ⟨g.n3, ⟨p, ep, gp, en⟩, .inr ⟨k0, q0, H0, rfl, eH, hk0⟩, g.up, g.hB⟩
theorem GI.ok {n : Nat} {B : List SZ} {h : HP} {H : List SZ} (g : GI n B h H) : h.ok := by
  obtain ⟨p, ep, gp, en⟩ := g.pn
  have n3 := g.n3
  refine ⟨by rw [ep]; exact ⟨Nat.le_refl _, by show 1 ≤ 3; decide⟩, fun x hx => ?_, ?_, ?_, ?_⟩
  · rw [ep, List.mem_singleton] at hx
    rw [hx]
    exact gp.pg
  all_goals rcases g.se with ⟨e1, _⟩ | ⟨k0, q0, H0, e1, eH, hk0⟩
  all_goals rw [e1]
  · exact List.nodup_nil
  · simp
  · nofun
  · intro q hq
    rw [List.mem_singleton.mp hq]
    exact n3
  · nofun
  · intro q hq
    rw [List.mem_singleton.mp hq, ep]
    exact Nat.zero_lt_one
theorem PL.px {p : PV} (g : PL p) : Px p := ⟨g.pg, by rw [g.kp]; nofun, ⟨Nat.le_trans g.pg.t1 (by decide), g.tt⟩, fun q hq => ⟨by rw [(g.pa q hq).1]; exact ⟨by decide, by decide⟩, (g.pa q hq).2⟩⟩
theorem GI.lim {n : Nat} {B : List SZ} {h : HP} {H : List SZ} (b : Bs B) (g : GI n B h H) : h.lim := by
  obtain ⟨p, ep, gp, en⟩ := g.pn
  have nl := g.nl b
  have mn := gp.mn
  refine ⟨fun x hx => ?_, fun x hx => ?_⟩
  · rw [ep, List.mem_singleton] at hx
    subst hx
    exact ⟨gp.px, by rw [en] at mn; show _ < 1000000; omega⟩
  · rcases g.se with ⟨e1, _⟩ | ⟨k0, q0, H0, e1, eH, hk0⟩
    · rw [e1] at hx
      cases hx
    · rw [e1, List.mem_singleton] at hx
      subst hx
      obtain ⟨b1, b2, b3⟩ := b.b q0 (g.hB q0 (by rw [eH]; simp))
      exact ⟨b1, by show q0.2.length < 1000000; omega, hk0⟩
structure VOk (v : LV) : Prop where
  kp : v.kept = []
  tt : tx 60 v.text
  ver : ∀ x, v.ver = some x → x ≤ 60
/-- what stays -/
structure VSt (v v' : LV) : Prop where
  n : v'.n = v.n
  s : v'.s = v.s
  p : v'.p = v.p
  w : v'.w = v.w
  h : v'.h = v.h
  f : v'.first = v.first
  z : v'.signs = v.signs
  g : v'.gone = v.gone
  pa : v'.past = v.past
theorem VSt.refl {v : LV} : VSt v v := ⟨rfl, rfl, rfl, rfl, rfl, rfl, rfl, rfl, rfl⟩
theorem VSt.trans {a b c : LV} (x : VSt a b) (y : VSt b c) : VSt a c := ⟨y.n.trans x.n, y.s.trans x.s, y.p.trans x.p, y.w.trans x.w, y.h.trans x.h, y.f.trans x.f, y.z.trans x.z, y.g.trans x.g, y.pa.trans x.pa⟩
theorem tk_ok : ∀ {cs : List (List Nat × List Nat)} {v : LV} {k : Nat}, VOk v → (∀ q ∈ cs, q.1 = wLine ∧ tx 60 q.2) → k + cs.length ≤ 60 → VOk (v.tk k cs) ∧ VSt v (v.tk k cs)
  | [], v, k, g, _, _ => ⟨g, .refl⟩
  | q :: cs, v, k, g, h, l => by
    rw [List.length_cons] at l
    obtain ⟨h1, h2⟩ := h q List.mem_cons_self
    have ht := fun x hx => h x (List.mem_cons_of_mem q hx)
    show VOk (LV.tk (if _ then _ else _) _ _) ∧ VSt v (LV.tk (if _ then _ else _) _ _)
    split
    · have e : ap (v.kept, v.text) q = (v.kept, q.2) := by
        unfold ap
        rw [if_pos h1]
      rw [e]
      obtain ⟨i1, i2⟩ := tk_ok (cs := cs) (v := { v with kept := v.kept, text := q.2, ver := some (k + 1) }) (k := k + 1) ⟨g.kp, h2, fun x hx => by cases hx; omega⟩ ht (by omega)
      exact ⟨i1, VSt.trans (b := { v with kept := v.kept, text := q.2, ver := some (k + 1) }) ⟨rfl, rfl, rfl, rfl, rfl, rfl, rfl, rfl, rfl⟩ i2⟩
    · exact tk_ok g ht (by omega)
theorem fin_ok {p : PV} {n : Nat} {x : SV} {v : LV} (g : PL p) (hn : p.notes.length ≤ 60) (o : VOk v) : VOk (v.fin (toldP p n x)) ∧ VSt v (v.fin (toldP p n x)) := by
  have mn := g.mn
  unfold toldP
  cases e : some? p x.k with
  | none =>
    show VOk (v.whole p.many p.text p.kept) ∧ VSt v (v.whole p.many p.text p.kept)
    unfold LV.whole
    split
    · exact ⟨⟨g.kp, ⟨Nat.le_trans g.pg.t1 (by decide), g.tt⟩, fun x hx => by cases hx; omega⟩, rfl, rfl, rfl, rfl, rfl, rfl, rfl, rfl, rfl⟩
    · exact ⟨o, .refl⟩
  | some cs =>
    show VOk (v.tk (x.k.getD 0) (cs.take 8)) ∧ VSt v (v.tk (x.k.getD 0) (cs.take 8))
    cases hk : x.k with
    | none =>
      rw [hk] at e
      cases e
    | some y =>
      rw [hk] at e
      have e : (if p.many ≤ y + p.past.length ∧ y ≤ p.many then some (lastN (p.many - y) p.past) else none) = some cs := e
      split at e
      · rename_i hc
        cases e
        refine tk_ok o (fun q hq => g.pa q (lastN_mem (List.mem_of_mem_take hq))) ?_
        have := lastN_len (n := p.many - y) (xs := p.past)
        rw [List.length_take]
        show y + _ ≤ _
        omega
      · cases e
structure LK where
  l : Nat
  v : LV
  z : List Nat
def LK.q (e : LK) : SZ := (e.v.s, e.z)
structure LKok (n : Nat) (H : List SZ) (e : LK) : Prop where
  n : e.v.n = n
  p : e.v.p = 0
  g : e.v.gone = false
  w : e.v.w = 20
  h : e.v.h = 5
  o : VOk e.v
  fs : (e.v.first = 0 ∧ e.v.signs = e.z) ∨ (e.v.first = e.z.length ∧ e.v.signs = [] ∧ e.q ∈ H)
  pa : e.v.past = true → ∃ q ∈ H, e.v.s < q.1
theorem LKok.mono {n : Nat} {H H' : List SZ} {e : LK} (g : LKok n H e) (h : ∀ q ∈ H, q ∈ H') : LKok n H' e := ⟨g.n, g.p, g.g, g.w, g.h, g.o, g.fs.imp id fun c => ⟨c.1, c.2.1, h _ c.2.2⟩, fun z => by obtain ⟨q, hq, l⟩ := g.pa z; exact ⟨q, h q hq, l⟩⟩
theorem LKok.lg {n : Nat} {B H : List SZ} {e : LK} (b : Bs B) (hn : n ≤ 3) (m : e.q ∈ B) (g : LKok n H e) : Lg e.v := by
  obtain ⟨b1, b2, b3⟩ := b.b _ m
  have b2 : e.z.length ≤ 10 := b2
  refine ⟨by rw [g.n]; exact hn, b1, by rw [g.p]; decide, by rw [g.w]; decide, by rw [g.h]; decide, by rw [g.o.kp]; exact ⟨by decide, nofun⟩, g.o.tt, fun x hx => by have := g.o.ver x hx; show _ < 1000000; omega, ?_, ?_⟩
  · rcases g.fs with ⟨e, _⟩ | ⟨e, _⟩ <;> rw [e]
    · decide
    · show _ < 1000000; omega
  · rcases g.fs with ⟨_, e⟩ | ⟨_, e, _⟩ <;> rw [e]
    · exact ⟨by omega, fun c hc => (dg_an c (b3 c hc)).1⟩
    · exact ⟨by decide, nofun⟩
theorem LKok.lets {n : Nat} {B H : List SZ} {e : LK} (b : Bs B) (m : e.q ∈ B) (g : LKok n H e) : (e.v.past = true ∧ e.v.letters = []) ∨ (e.v.past = false ∧ ∃ t, e.v.letters = [t] ∧ LtB n B H t e.q) := by
  unfold LV.letters
  obtain ⟨b1, b2, b3⟩ := b.b _ m
  have b2 : e.z.length ≤ 10 := b2
  cases hp : e.v.past with
  | true => exact .inl ⟨rfl, if_pos rfl⟩
  | false =>
    refine .inr ⟨rfl, _, by rw [if_neg (by decide), if_neg (by rw [g.g]; decide)], m, e.v.ver, e.v.first, e.v.signs.take 20, by rw [g.n, g.p]; rfl, fun x hx => by have := g.o.ver x hx; show _ < 1000000; omega, ?_⟩
    rcases g.fs with ⟨e1, e2⟩ | ⟨e1, e2, e3⟩
    · exact .inl ⟨e1, by rw [e2, List.take_of_length_le (by omega)]; rfl⟩
    · exact .inr ⟨e1, by rw [e2]; rfl, e3⟩
/-- told by the hall -/
structure Told (n : Nat) (q : SZ) (m : HM) : Prop where
  n : m.n = n
  s : m.s = q.1
  d : m.d = q.2.length
  ok : HMok m
  fin : ∀ v : LV, VOk v → VOk (v.fin m) ∧ VSt v (v.fin m)
theorem toldP_nsd {p : PV} {n : Nat} {v : SV} : (toldP p n v).n = n ∧ (toldP p n v).s = v.s ∧ (toldP p n v).d = v.d := by
  unfold toldP
  cases some? p v.k <;> exact ⟨rfl, rfl, rfl⟩
theorem GI.lets {n : Nat} {B : List SZ} {h : HP} {H : List SZ} (b : Bs B) (g : GI n B h H) : (H = [] ∧ h.letters = []) ∨ ∃ q H0 m, H = H0 ++ [q] ∧ h.letters = [(n, m)] ∧ Told n q m := by
  obtain ⟨p, ep, gp, en⟩ := g.pn
  have nl := g.nl b
  have mn := gp.mn
  rcases g.se with ⟨e1, e2⟩ | ⟨k0, q0, H0, e1, eH, hk0⟩
  · refine .inl ⟨e2, ?_⟩
    unfold HP.letters HP.pres HP.names
    rw [e1]
    simp [srt, pres]
  · refine .inr ⟨q0, H0, toldP p n ⟨q0.1, 0, q0.2.length, k0, true⟩, eH, ?_, ?_⟩
    · have en1 : h.names = [n] := by
        unfold HP.names srt
        rw [e1]
        simp
      unfold HP.letters HP.pres
      rw [en1, e1]
      unfold pres sget
      simp only [List.filterMap_cons, List.filterMap_nil, if_true, Option.bind_some, List.map_cons, List.map_nil]
      unfold HP.told
      rw [ep]
      rfl
    · obtain ⟨b1, b2, b3⟩ := b.b q0 (g.hB q0 (by rw [eH]; simp))
      obtain ⟨t1, t2, t3⟩ := toldP_nsd (p := p) (n := n) (v := ⟨q0.1, 0, q0.2.length, k0, true⟩)
      refine ⟨t1, t2, t3, AH.told_ok gp.px ?_ ?_ b1 ?_ hk0, fun v o => fin_ok gp (by rw [en]; exact nl) o⟩
      · rw [en] at mn; show _ < 1000000; omega
      · have := g.n3; show _ < 1000000; omega
      · show q0.2.length < 1000000; omega
def LK.hear (e : LK) (m : HM) : LK := { e with v := e.v.hear m }
theorem LKok.hear {n : Nat} {B H : List SZ} {e : LK} {q : SZ} {m : HM} (b : Bs B) (hm : e.q ∈ B) (hq : q ∈ B) (qH : q ∈ H) (g : LKok n H e) (t : Told n q m) : LKok n H (e.hear m) ∧ (e.hear m).q = e.q ∧ (e.v.s < q.1 → (e.hear m).v.past = true) ∧ (e.v.s = q.1 → (e.hear m).v.signs = []) ∧ (e.v.past = true → (e.hear m).v.past = true) := by
  have en : m.n = e.v.n := t.n.trans g.n.symm
  by_cases c : m.s ≠ e.v.s
  · have eh : e.v.hear m = { e.v with past := e.v.past || decide (e.v.s < m.s) } := by
      unfold LV.hear
      rw [if_neg (by rw [en]; exact fun z => z rfl), if_pos c]
    unfold LK.hear
    rw [eh]
    rw [t.s] at c ⊢
    refine ⟨⟨g.n, g.p, g.g, g.w, g.h, ⟨g.o.kp, g.o.tt, g.o.ver⟩, g.fs, fun z => ?_⟩, rfl, fun z => ?_, fun z => absurd z.symm c, fun z => ?_⟩
    · rcases Bool.or_eq_true_iff.mp z with z | z
      · exact g.pa z
      · exact ⟨q, qH, of_decide_eq_true z⟩
    · show (e.v.past || decide (e.v.s < q.1)) = true
      rw [decide_eq_true z, Bool.or_true]
    · show (e.v.past || decide (e.v.s < q.1)) = true
      rw [z]
      rfl
  · have c := Decidable.not_not.mp c
    have eq : e.q = q := up_inj b.up hm hq (by rw [← t.s]; exact c.symm)
    subst eq
    have td : m.d = e.z.length := t.d
    have eh : e.v.hear m = (e.v.done m.d).fin m := by
      unfold LV.hear
      rw [if_neg (by rw [en]; exact fun z => z rfl), if_neg (fun z => z c)]
    have vd : VOk (e.v.done m.d) := by
      obtain ⟨d1, d2, d3⟩ := LV.done_ver (v := e.v) (d := m.d)
      exact ⟨by rw [d2]; exact g.o.kp, by rw [d3]; exact g.o.tt, by rw [d1]; exact g.o.ver⟩
    obtain ⟨f1, f2⟩ := t.fin _ vd
    rw [← eh] at f1 f2
    have dn : (e.v.done m.d).first = e.z.length ∧ (e.v.done m.d).signs = [] := by
      unfold LV.done
      rw [td]
      rcases g.fs with ⟨g1, g2⟩ | ⟨g1, g2, _⟩
      · rw [g1, g2]
        split
        · exact ⟨rfl, by show e.z.drop (e.z.length - 0) = []; simp⟩
        · have z0 : e.z.length = 0 := by omega
          exact ⟨by rw [g1, z0], by rw [g2]; exact List.eq_nil_of_length_eq_zero z0⟩
      · rw [g1, if_neg (by omega)]
        exact ⟨g1, g2⟩
    have ds : (e.v.done m.d).n = e.v.n ∧ (e.v.done m.d).s = e.v.s ∧ (e.v.done m.d).p = e.v.p ∧ (e.v.done m.d).w = e.v.w ∧ (e.v.done m.d).h = e.v.h ∧ (e.v.done m.d).gone = e.v.gone ∧ (e.v.done m.d).past = e.v.past := by
      unfold LV.done
      split <;> exact ⟨rfl, rfl, rfl, rfl, rfl, rfl, rfl⟩
    have eq : (e.hear m).q = e.q := by
      show ((e.v.hear m).s, e.z) = (e.v.s, e.z)
      rw [f2.s, ds.2.1]
    have sg : (e.v.hear m).signs = [] := f2.z.trans dn.2
    refine ⟨⟨?_, ?_, ?_, ?_, ?_, f1, .inr ⟨f2.f.trans dn.1, sg, by rw [eq]; exact qH⟩, fun z => ?_⟩, eq, fun z => absurd z (by show ¬ e.v.s < e.v.s; omega), fun _ => sg, fun z => ?_⟩
    · exact f2.n.trans (ds.1.trans g.n)
    · exact f2.p.trans (ds.2.2.1.trans g.p)
    · exact f2.g.trans (ds.2.2.2.2.2.1.trans g.g)
    · exact f2.w.trans (ds.2.2.2.1.trans g.w)
    · exact f2.h.trans (ds.2.2.2.2.1.trans g.h)
    · obtain ⟨x, hx, lx⟩ := g.pa ((f2.pa.trans ds.2.2.2.2.2.2).symm.trans z)
      refine ⟨x, hx, ?_⟩
      show (e.v.hear m).s < _
      rw [f2.s, ds.2.1]
      exact lx
    · exact (f2.pa.trans ds.2.2.2.2.2.2).trans z
end K12
set_option maxRecDepth 100000
set_option maxHeartbeats 400000
namespace K12
open AH PySem L2 TL
abbrev lkD (e : LK) : D := .tup [.ref e.l, .int e.v.s, .str e.z]
abbrev lkE (e : LK) : Nat × MO := (e.l, lookO e.v)
def mapk {α : Type} (f : α → α) (k : Nat) (L : List α) : List α := (L.take k).map f ++ L.drop k
theorem mapk_at {α : Type} {f : α → α} {L : List α} {k : Nat} {e : α} (h : L[k]? = some e) : (mapk f k L)[k]? = some e ∧ (mapk f k L).set k (f e) = mapk f (k + 1) L := by
  obtain ⟨hk, rfl⟩ := List.getElem?_eq_some_iff.mp h
  have l : ((L.take k).map f).length = k := by rw [List.length_map, List.length_take]; omega
  unfold mapk
  rw [List.drop_eq_getElem_cons hk]
  constructor
  · rw [List.getElem?_append_right (by omega), l, Nat.sub_self]
    rfl
  · rw [List.set_append_right _ _ (by omega), l, Nat.sub_self, List.set_cons_zero, List.take_add_one, h, Option.toList_some, List.map_append, List.append_assoc]
    rfl
structure Out (n : Nat) (H : List SZ) (h : HP) (L L' : List LK) : Prop where
  g : GI n (L.map LK.q) h H
  lk : ∀ e ∈ L', LKok n H e
  q : L'.map LK.q = L.map LK.q
  d : L'.map lkD = L.map lkD
  seen : ∀ q, H.getLast? = some q → ∀ e ∈ L', (e.v.s < q.1 → e.v.past = true) ∧ (e.v.s = q.1 → e.v.signs = [])
abbrev fold (H : List SZ) (ms : List (LM × SZ)) : List SZ := ms.foldl (fun H x => nxt H x.2) H
theorem fold_sub : ∀ {ms : List (LM × SZ)} {H : List SZ}, ∀ a ∈ H, a ∈ fold H ms
  | [], _, _, h => h
  | x :: ms, H, a, h => fold_sub (ms := ms) a (nxt_sub a h)
section
variable {S : Sto} {A A' X Y : Hm} {l ll n : Nat} {ρ : Rho} {h : HV} {H : List SZ} {L : List LK}
theorem ahear_w {lh : Nat} {ms : List (LM × SZ)} (el : h.lh = lh) (hs : Hs S (hallA h ++ ((ll, .lst (L.map lkD)) :: (L.map lkE ++ Y)))) (b : Bs (L.map LK.q)) (g : GI n (L.map LK.q) h.st H) (lk : ∀ e ∈ L, LKok n H e) (hm : ∀ x ∈ ms, LtB n (L.map LK.q) H x.1 x.2) :
    W (F__law_all_hear [.ref lh, .ref ll, .lst (ms.map fun x => .str (lmT x.1))] S) fun o S' => o = .v .non ∧ ∃ (h' : HV) (L' : List LK), h'.lh = lh ∧ Out n (fold H ms) h'.st L L' ∧ Hs S' (hallA h' ++ ((ll, .lst (L'.map lkD)) :: (L'.map lkE ++ Y))) := by
  refine w_run rfl ?_
  have z : rho0 8 [D.ref lh, D.ref ll, D.lst (List.map (fun x => D.str (lmT x.fst)) ms)] = [.val (.ref lh), .val (.ref ll), .val (.lst (ms.map fun x => .str (lmT x.1))), .no, .no, .no, .no, .no] := rfl
  rw [z]
  unfold b__law_all_hear
  refine ws_seq (ws_for (wi_L (we_var rfl (.inl ⟨_, rfl, ?_⟩))))
  refine ws_loop (fun k ρ S => ∃ s3 h', ρ = [.val (.ref lh), .val (.ref ll), .val (.lst (ms.map fun x => .str (lmT x.1))), s3, .no, .no, .no, .no] ∧ h'.lh = lh ∧ GI n (L.map LK.q) h'.st (fold H (ms.take k)) ∧ Hs S (hallA h' ++ ((ll, .lst (L.map lkD)) :: (L.map lkE ++ Y)))) ⟨_, h, rfl, el, g, hs⟩ ?_ ?_
  · clear hs
    rintro k d ρ S hk ⟨s3, h', rfl, rfl, g', hs⟩
    rw [List.getElem?_map] at hk
    obtain ⟨x, hx, rfl⟩ := Option.map_eq_some_iff.mp hk
    have xm := List.mem_of_getElem? hx
    have lt := (hm x xm).mono (fun q h => h) (fold_sub (ms := ms.take k))
    have mh : (h'.lh, MO.ins 3 [.lst (h'.ps.map fun q => D.ref q.1), .ref h'.ls]) ∈ hallA h' ++ ((ll, .lst (L.map lkD)) :: (L.map lkE ++ Y)) := by
      exact List.mem_append_left _ mem_hall
    fail "STEP"
    refine (hhear_w hs g'.ok (lt.ok b g'.n3)).mono fun o S1 e => ?_
    obtain ⟨rfl, h2, e1, e2, hs⟩ := e
    fail "STEP"
    refine ⟨_, h2, rfl, e1, ?_, hs⟩
    rw [e2, List.take_add_one, hx, Option.toList_some]
    unfold fold
    rw [List.foldl_append]
    exact g'.hear b lt
  · clear hs g
    rintro ρ S ⟨s3, h', rfl, rfl, g, hs⟩
    rw [List.length_map, List.take_length] at g
    have lk : ∀ e ∈ L, LKok n (fold H ms) e := fun e he => (lk e he).mono (fold_sub (ms := ms))
    generalize fold H ms = H at g lk ⊢
    have sub : ∀ x ∈ hallA h', x ∈ hallA h' ++ ((ll, .lst (L.map lkD)) :: (L.map lkE ++ Y)) := fun x hx => List.mem_append_left _ hx
    have mh : (h'.lh, MO.ins 3 [.lst (h'.ps.map fun q => D.ref q.1), .ref h'.ls]) ∈ hallA h' ++ ((ll, .lst (L.map lkD)) :: (L.map lkE ++ Y)) := by
      exact List.mem_append_left _ mem_hall
    fail "STEP"
    refine (hlets_w hs sub g.ok (g.lim b)).mono fun o S1 e => ?_
    obtain ⟨rfl, rfl⟩ := e
    fail "STEP"
    rcases g.lets b with ⟨rfl, e2⟩ | ⟨q, H0, m, eH, e2, td⟩
    · rw [e2]
      refine ws_loop (fun k ρ S => S = S1) rfl (fun k d ρ S hk => by simp at hk) ?_
      rintro ρ S rfl
      fail "STEP"
      exact ⟨rfl, h', L, rfl, ⟨g, lk, rfl, rfl, fun q hq => by cases hq⟩, hs⟩
    rw [e2]
    have qH : q ∈ H := by rw [eH]; simp
    have lkq : ∀ e ∈ L, e.q ∈ L.map LK.q := fun e he => List.mem_map_of_mem he
    have hr := fun (e : LK) (he : e ∈ L) => (lk e he).hear b (lkq e he) (g.hB q qH) qH td
    refine ws_loop (fun k ρ S => (k = 0 ∧ ρ = [.val (.ref h'.lh), .val (.ref ll), .val (.lst (ms.map fun x => .str (lmT x.1))), s3, .no, .no, .no, .no] ∧ S = S1) ∨ (k = 1 ∧ Hs S (hallA h' ++ ((ll, .lst (L.map lkD)) :: ((L.map fun e => e.hear m).map lkE ++ Y))))) (.inl ⟨rfl, rfl, rfl⟩) ?_ ?_
    · rintro k d ρ S hk c
      have k0 : k = 0 := by
        have := (List.getElem?_eq_some_iff.mp hk).1
        simp at this
        exact this
      subst k0
      rcases c with ⟨_, rfl, rfl⟩ | ⟨c, _⟩
      rotate_left
      · omega
      simp at hk
      subst hk
      fail "STEP"
      refine ws_forR (we_var rfl ⟨L.map lkD, hs.lst (a := .non) (by fail "MEM"), fun k ρ S => ∃ s5 s6 s7, ρ = [.val (.ref h'.lh), .val (.ref ll), .val (.lst (ms.map fun x => .str (lmT x.1))), .val (.str (hmT m)), .val (.int n), s5, s6, s7] ∧ Hs S (hallA h' ++ ((ll, .lst (L.map lkD)) :: ((mapk (fun e => e.hear m) k L).map lkE ++ Y))), ?_, ⟨_, _, _, rfl, hs⟩, ?_, ?_⟩)
      · rintro k ρ S2 ⟨s5, s6, s7, rfl, hs⟩
        exact hs.lst (a := .non) (by fail "MEM")
      · clear hs
        rintro k d ρ S hk ⟨s5, s6, s7, rfl, hs⟩
        rw [List.getElem?_map] at hk
        obtain ⟨e, he, rfl⟩ := Option.map_eq_some_iff.mp hk
        have em := List.mem_of_getElem? he
        obtain ⟨a1, a2⟩ := mapk_at (f := fun e : LK => e.hear m) he
        have u := Ud.fam (f := lkE) (b := e.hear m) a1 rfl
        rw [a2] at u
        have mm := u.mem
        have u : Ud ((mapk (fun e => e.hear m) k L).map lkE) e.l (lookO e.v) (lookO (e.v.hear m)) ((mapk (fun e => e.hear m) (k + 1) L).map lkE) := u
        have lg := (lk e em).lg b g.n3 (lkq e em)
        fail "STEP"
        refine (lhear_w (v := e.v) hs (by fail "UDD") lg td.ok).mono fun o S1 e => ?_
        obtain ⟨rfl, hs⟩ := e
        fail "STEP"
        exact hs
      · clear hs
        rintro ρ S ⟨s5, s6, s7, rfl, hs⟩
        fail "STEP"
        refine .inr ⟨rfl, ?_⟩
        rw [List.length_map] at hs
        unfold mapk at hs
        rw [List.take_length, List.drop_length, List.append_nil] at hs
        exact hs
    · clear hs
      rintro ρ S c
      rcases c with ⟨c, _⟩ | ⟨_, hs⟩
      · simp at c
      fail "STEP"
      have dq : (L.map fun e => e.hear m).map LK.q = L.map LK.q := by
        rw [List.map_map]
        exact List.map_congr_left fun e he => (hr e he).2.1
      have dd : (L.map fun e => e.hear m).map lkD = L.map lkD := by
        rw [List.map_map]
        refine List.map_congr_left fun e he => ?_
        have z : (e.hear m).v.s = e.v.s := congrArg Prod.fst (hr e he).2.1
        show D.tup [.ref e.l, .int ((e.hear m).v.s : Nat), .str e.z] = _
        rw [z]
      refine ⟨rfl, h', L.map fun e => e.hear m, rfl, ⟨g, fun e he => ?_, dq, dd, fun x hx e he => ?_⟩, by rw [dd]; exact hs⟩
      · obtain ⟨e, he', rfl⟩ := List.mem_map.mp he
        exact (hr e he').1
      · obtain ⟨e, he', rfl⟩ := List.mem_map.mp he
        rw [eH, List.getLast?_append] at hx
        have hx : q = x := by simpa using hx
        subst hx
        obtain ⟨_, h2, h3, h4, _⟩ := hr e he'
        have z : (e.hear m).v.s = e.v.s := congrArg Prod.fst h2
        rw [z]
        exact ⟨h3, h4⟩
end
end K12
set_option maxRecDepth 100000
set_option maxHeartbeats 1000000
namespace K12
open AH PySem L2 TL
def nA (s : Sl) : Prop := ∀ ds, s ≠ .acc ds
theorem nA.val {d : D} : nA (.val d) := fun ds h => by cases h
theorem nA.no : nA .no := fun ds h => by cases h
theorem noacc_of {ρ : Rho} (h : ∀ s ∈ ρ, nA s) : NoAcc ρ := fun i ds e => h _ (List.mem_of_getElem? e) ds rfl
abbrev nlD : D := .tup [.str [78, 111, 76, 111, 111, 107], .int 0]
abbrev q0 : Str := ("_law_is_last" : Str) ++ ".<locals>." ++ "<lambda>"
section
variable {S : Sto} {A A' X Y : Hm} {l ll n : Nat} {ρ : Rho} {h : HV} {H : List SZ} {L : List LK}
theorem lpressX_past {v : LV} {z : List Nat} (hs : Hs S A) (u : (l, lookO v) ∈ A) (hg : v.gone = false) (hp : v.past = true) : W (F_Look_press [.ref l, .str z] S) fun o S' => o = .ex 106 [] ∧ S' = S := by
  refine wx_run rfl ?_
  show WQ (b_Look_press [.val (.ref l), .val (.str z)] S) _
  unfold b_Look_press
  refine wx_seq (wx_if ?_)
  fail "STEP"
  rw [hg]
  fail "STEP"
  rw [hp]
  fail "STEP"
  refine wx_raise ?_
  exact ⟨rfl, rfl⟩
theorem we_all1 {l t : Nat} {q : Str} {run : EvV} {due : Ev} {res : Nat → List (Str × D) → Option D} {P : D → Sto → Prop} (hl : S.get l = some (.tab t q)) (na : NoAcc ρ)
    (h : W (due ρ S) fun d S1 => W (run ρ S1) fun o S2 => ∃ v, (match o with | .ok x => x = v | .ex c fs => res c fs = some v) ∧ W (AH.F_alike 8 [v, d] S2) fun o S3 => o = .v (.bl true) ∧ P (.bl true) S3) : W (eAll l t q [run] due res ρ S) P := by
  unfold eAll
  rw [if_pos ⟨hl, na⟩]
  refine w_bind (h.mono fun d S1 p => ?_)
  obtain ⟨o, S2, e1, v, hv, y, S3, e2, rfl, p⟩ := p
  have e : allRun res d ([run].map fun r => r ρ) S1 = some S3 := by
    show (ansR res (run ρ S1)).bind _ = _
    unfold ansR
    rw [e1]
    cases o with
    | ok x =>
      have hv : x = v := hv
      subst hv
      show (AH.F_alike 8 [x, d] S2).bind _ = _
      rw [e2]
      rfl
    | ex c fs =>
      have hv : res c fs = some v := hv
      show ((res c fs).map _).bind _ = _
      rw [hv]
      show (AH.F_alike 8 [v, d] S2).bind _ = _
      rw [e2]
      rfl
  exact ⟨_, S3, by rw [e]; rfl, p⟩
theorem wo_notB {i j : Bool} {P : D → Sto → Prop} (h : P (.bl (!decide (i = j))) S) : W (fNotB (.bl i) (.bl j) S) P := w_ret h
theorem atI_last {xs : List D} {d : D} : atI (xs ++ [d]) (-1) = some d := by
  have e : ixN (xs.length + 1) (-1) = some xs.length := by
    unfold ixN
    split
    · omega
    · split
      · congr 1
        omega
      · omega
  simp only [atI, List.length_append, List.length_singleton]
  rw [e]
  simp
structure StL (n : Nat) (B : List SZ) (Ds : List D) (h : HP) (H : List SZ) (L : List LK) : Prop where
  g : GI n B h H
  lk : ∀ e ∈ L, LKok n H e
  q : L.map LK.q = B
  d : L.map lkD = Ds
abbrev Seen (H : List SZ) (L : List LK) : Prop := ∀ q, H.getLast? = some q → ∀ e ∈ L, (e.v.s < q.1 → e.v.past = true) ∧ (e.v.s = q.1 → e.v.signs = [])
theorem nxt_max {B H : List SZ} {q : SZ} (b : Bs B) (hB : ∀ q ∈ H, q ∈ B) (hq : q ∈ B) (mx : ∀ a ∈ B, a.1 ≤ q.1) : q ∈ nxt H q := by
  unfold nxt
  split
  · exact List.mem_append_right _ (List.mem_singleton_self _)
  · rename_i c
    apply Classical.byContradiction
    intro nq
    refine c fun a ha => ?_
    have := mx a (hB a ha)
    rcases Nat.lt_or_eq_of_le this with z | z
    · exact z
    · exact absurd (by rw [← up_inj b.up (hB a ha) hq z]; exact ha) nq
theorem last_max {H : List SZ} {q : SZ} (up : H.Pairwise (fun a b => a.1 < b.1)) (hq : q ∈ H) (mx : ∀ a ∈ H, a.1 ≤ q.1) : H.getLast? = some q := by
  rcases List.eq_nil_or_concat H with rfl | ⟨H0, x, rfl⟩
  · cases hq
  · rw [List.concat_eq_append] at up hq mx ⊢
    rw [List.pairwise_append] at up
    rw [List.getLast?_append]
    have : x = q := by
      rcases List.mem_append.mp hq with hq | hq
      · have h1 := up.2.2 q hq x (List.mem_singleton_self _)
        have h2 := mx x (List.mem_append_right _ (List.mem_singleton_self _))
        omega
      · exact (List.mem_singleton.mp hq).symm
    rw [this]
    rfl
theorem StL.lets {B : List SZ} {Ds : List D} {h : HP} (b : Bs B) (g : StL n B Ds h H L) {e : LK} (he : e ∈ L) : ∃ ms : List (LM × SZ), (e.v.letters.map fun m => D.str (lmT m)) = ms.map (fun x => D.str (lmT x.1)) ∧ (∀ x ∈ ms, LtB n B H x.1 x.2) ∧ (e.v.past = false → ∃ t, ms = [(t, e.q)]) := by
  rcases (g.lk e he).lets b (by rw [← g.q]; exact List.mem_map_of_mem he) with ⟨h1, h2⟩ | ⟨h1, t, h2, h3⟩
  · exact ⟨[], by rw [h2]; rfl, nofun, fun z => by rw [h1] at z; cases z⟩
  · refine ⟨[(t, e.q)], by rw [h2]; rfl, fun x hx => ?_, fun _ => ⟨t, rfl⟩⟩
    rw [List.mem_singleton] at hx
    subst hx
    exact h3
theorem StL.at {B : List SZ} {Ds : List D} {h : HP} (g : StL n B Ds h H L) {k : Nat} {d : D} (hk : Ds[k]? = some d) : ∃ e, L[k]? = some e ∧ d = lkD e ∧ e ∈ L ∧ e.q ∈ B ∧ B[k]? = some e.q := by
  rw [← g.d, List.getElem?_map] at hk
  obtain ⟨e, he, rfl⟩ := Option.map_eq_some_iff.mp hk
  have em := List.mem_of_getElem? he
  refine ⟨e, he, rfl, em, by rw [← g.q]; exact List.mem_map_of_mem em, ?_⟩
  rw [← g.q, List.getElem?_map, he]
  rfl
theorem rounds_w {lh : Nat} {B : List SZ} {Ds : List D} {q : SZ} {B1 : List SZ} (eB : B = B1 ++ [q]) (b : Bs B) (el : h.lh = lh) (hs : Hs S (hallA h ++ ((ll, .lst Ds) :: (L.map lkE ++ Y)))) (g : StL n B Ds h.st H L) {Q : Fl → Rho → Sto → Prop}
    (k : ∀ (s3 s4 s5 s6 : Sl) (h' : HV) (H' : List SZ) (L' : List LK) (S' : Sto), nA s3 → nA s4 → nA s5 → nA s6 → h'.lh = lh → StL n B Ds h'.st H' L' → Seen H' L' → q ∈ H' → Hs S' (hallA h' ++ ((ll, .lst Ds) :: (L'.map lkE ++ Y))) → Q .nx [.val (.ref lh), .val (.ref ll), .val (.int n), s3, s4, s5, s6, .no, .no, .no, .no, .no] S') :
    WS ((sFor (iR1 (aCons (eC (.int 12)) aNil)) (gNm 3) (sForR (eVar 1) (gTp 3 (gsCons (gNm 4) (gsCons (gNm 5) (gsCons (gNm 6) gsNil)))) (sDo (eN (callE F__law_all_hear) (aCons (eVar 0) (aCons (eVar 1) (aCons (eMt 1 AH.F_Look_letters (eVar 4) aNil) aNil))))))) [.val (.ref lh), .val (.ref ll), .val (.int n), .no, .no, .no, .no, .no, .no, .no, .no, .no] S) Q := by
  have up := b.up
  rw [eB, List.pairwise_append] at up
  have mx : ∀ a ∈ B, a.1 ≤ q.1 := fun a ha => by
    rw [eB] at ha
    rcases List.mem_append.mp ha with ha | ha
    · exact Nat.le_of_lt (up.2.2 a ha q (List.mem_singleton_self _))
    · rw [List.mem_singleton.mp ha]
      exact Nat.le_refl _
  have qB : q ∈ B := by rw [eB]; simp
  have lB : B.length = B1.length + 1 := by rw [eB, List.length_append]; rfl
  have lD : Ds.length = B.length := by rw [← g.d, ← g.q, List.length_map, List.length_map]
  fail "STEP"
  refine ⟨by omega, ?_⟩
  refine ws_loop (fun t ρ S => ∃ s3 s4 s5 s6 h' H' L', ρ = [.val (.ref lh), .val (.ref ll), .val (.int n), s3, s4, s5, s6, .no, .no, .no, .no, .no] ∧ nA s3 ∧ nA s4 ∧ nA s5 ∧ nA s6 ∧ h'.lh = lh ∧ StL n B Ds h'.st H' L' ∧ (1 ≤ t → Seen H' L' ∧ q ∈ H') ∧ Hs S (hallA h' ++ ((ll, .lst Ds) :: (L'.map lkE ++ Y)))) ⟨_, _, _, _, h, H, L, rfl, nA.no, nA.no, nA.no, nA.no, el, g, fun z => by omega, hs⟩ ?_ ?_
  · clear hs g
    rintro t d ρ S ht ⟨s3, s4, s5, s6, h', H', L', rfl, n3, n4, n5, n6, eh, g, sn, hs⟩
    obtain ⟨rfl, tT⟩ := rng_get ht
    fail "STEP"
    refine ws_forR (we_var rfl ⟨Ds, hs.lst (a := .non) (by fail "MEM"), fun k ρ S => ∃ s4 s5 s6 h' H' L', ρ = [.val (.ref lh), .val (.ref ll), .val (.int n), .val (.int (0 + (t : Nat))), s4, s5, s6, .no, .no, .no, .no, .no] ∧ nA s4 ∧ nA s5 ∧ nA s6 ∧ h'.lh = lh ∧ StL n B Ds h'.st H' L' ∧ (1 ≤ t ∨ 1 ≤ k → Seen H' L') ∧ (1 ≤ t ∨ k = Ds.length → q ∈ H') ∧ Hs S (hallA h' ++ ((ll, .lst Ds) :: (L'.map lkE ++ Y))), ?_, ⟨_, _, _, h', H', L', rfl, n4, n5, n6, eh, g, fun z => (sn (by omega)).1, fun z => (sn (by omega)).2, hs⟩, ?_, ?_⟩)
    · rintro k ρ S2 ⟨s4, s5, s6, h', H', L', rfl, n4, n5, n6, eh, g, sn, sq, hs⟩
      exact hs.lst (a := .non) (by fail "MEM")
    · clear hs g sn n4 n5 n6 eh
      rintro k d ρ S hk ⟨s4, s5, s6, h', H', L', rfl, n4, n5, n6, eh, g, sn, sq, hs⟩
      obtain ⟨e, he, rfl, em, eqB, eqk⟩ := g.at hk
      obtain ⟨ms, m1, m2, m3⟩ := g.lets b em
      have mm : lkE e ∈ L'.map lkE := List.mem_map_of_mem em
      have lg := (g.lk e em).lg b g.g.n3 eqB
      have kl := (List.getElem?_eq_some_iff.mp hk).1
      fail "STEP"
      refine (lletters_w (v := e.v) hs (by fail "MEM") lg).mono fun o S1 e => ?_
      obtain ⟨rfl, rfl⟩ := e
      fail "STEP"
      rw [m1]
      have bq : Bs (L'.map LK.q) := by rw [g.q]; exact b
      have gd := g.d
      rw [← g.d] at hs
      refine (ahear_w (Y := Y) (H := H') eh hs bq (by rw [g.q]; exact g.g) g.lk (by rw [g.q]; exact m2)).mono fun o S2 e => ?_
      obtain ⟨rfl, h2, L2, eh2, ot, hs⟩ := e
      fail "STEP"
      have g2 : StL n B Ds h2.st (fold H' ms) L2 := ⟨by have := ot.g; rw [g.q] at this; exact this, ot.lk, ot.q.trans g.q, ot.d.trans g.d⟩
      rw [g2.d] at hs
      refine ⟨_, _, _, h2, fold H' ms, L2, rfl, nA.val, nA.val, nA.val, eh2, g2, fun _ => ot.seen, fun z => ?_, hs⟩
      rcases z with z | z
      · exact fold_sub (ms := ms) q (sq (.inl z))
      · have kq : e.q = q := by
          rw [eB, List.getElem?_append_right (by omega), show k - B1.length = 0 by omega] at eqk
          exact (Option.some.inj eqk).symm
        cases hp : e.v.past with
        | true =>
          obtain ⟨x, hx, lx⟩ := (g.lk e em).pa hp
          have := mx x (g.g.hB x hx)
          rw [← kq] at this
          exact absurd lx (Nat.not_lt.mpr this)
        | false =>
          obtain ⟨t, rfl⟩ := m3 hp
          show q ∈ nxt H' e.q
          rw [kq]
          exact nxt_max b g.g.hB qB mx
    · clear hs g sn n4 n5 n6 eh
      rintro ρ S ⟨s4, s5, s6, h', H', L', rfl, n4, n5, n6, eh, g, sn, sq, hs⟩
      fail "STEP"
      exact ⟨_, _, _, _, h', H', L', rfl, nA.val, n4, n5, n6, eh, g, fun _ => ⟨sn (.inr (by omega)), sq (.inr rfl)⟩, hs⟩
  · clear hs g
    rintro ρ S ⟨s3, s4, s5, s6, h', H', L', rfl, n3, n4, n5, n6, eh, g, sn, hs⟩
    obtain ⟨s1, s2⟩ := sn (by rw [rng_len]; decide)
    exact k s3 s4 s5 s6 h' H' L' S n3 n4 n5 n6 eh g s1 s2 hs
end
end K12
set_option maxRecDepth 100000
set_option maxHeartbeats 1000000
namespace K12
open AH PySem L2 TL
/-- the signs of one session among the notes -/
def fsel (s : Nat) : D → Option D
  | .tup [_, .int x, c] => if x = (s : Int) then some c else none
  | _ => none
theorem fsel_note {n s x c : Nat} : fsel s (noteD n x c) = if x = s then some (.str [c]) else none := by
  show (if (x : Int) = (s : Int) then _ else _) = _
  by_cases e : x = s
  · rw [if_pos (by omega), if_pos e]
  · rw [if_neg (by omega), if_neg e]
theorem fsel_no {n s : Nat} : ∀ {H : List SZ}, (∀ q ∈ H, q.1 ≠ s) → (nts n H).filterMap (fsel s) = []
  | [], _ => rfl
  | q :: H, h => by
    show ((q.2.map (noteD n q.1)) ++ nts n H).filterMap (fsel s) = []
    rw [List.filterMap_append, fsel_no fun x hx => h x (List.mem_cons_of_mem _ hx), List.append_nil, List.filterMap_map]
    refine List.filterMap_eq_nil_iff.mpr fun c _ => ?_
    show fsel s (noteD n q.1 c) = none
    rw [fsel_note, if_neg (h q List.mem_cons_self)]
theorem fsel_one {n : Nat} {q : SZ} : (nts n [q]).filterMap (fsel q.1) = q.2.map fun c => .str [c] := by
  rw [nts_one, List.filterMap_map]
  have : (fsel q.1 ∘ noteD n q.1) = fun c => some (D.str [c]) := by
    funext c
    show fsel q.1 (noteD n q.1 c) = _
    rw [fsel_note, if_pos rfl]
  rw [this]
  simp
theorem fsel_last {n : Nat} {H0 : List SZ} {q : SZ} (h : ∀ a ∈ H0, a.1 < q.1) : (nts n (H0 ++ [q])).filterMap (fsel q.1) = q.2.map fun c => .str [c] := by
  rw [nts_app, List.filterMap_append, fsel_no fun a ha => Nat.ne_of_lt (h a ha), List.nil_append]
  exact fsel_one
theorem nts_get {n : Nat} : ∀ {H : List SZ} {d : D}, d ∈ nts n H → ∃ q ∈ H, ∃ c ∈ q.2, d = noteD n q.1 c := fun {H d} h => by
  unfold nts at h
  obtain ⟨q, hq, h⟩ := List.mem_flatMap.mp h
  obtain ⟨c, hc, rfl⟩ := List.mem_map.mp h
  exact ⟨q, hq, c, hc, rfl⟩
section
variable {S : Sto} {A A' X Y : Hm} {l ll n : Nat} {ρ : Rho} {h : HV} {H : List SZ} {L : List LK}
theorem xo_ixLast {ds ds0 : List D} {d : D} {P : D → Sto → Prop} (hs : Hs S A) (m : (l, MO.lst ds) ∈ A) (e : ds = ds0 ++ [d]) (k : P d S) : W (fIx (.ref l) (.int (-1)) S) P := by
  refine ⟨_, _, ?_, k⟩
  show (seqOf S (.ref l)).bind _ = _
  rw [(lstOf_ty (hs.lst (a := .non) m)).2.2, e]
  show (atI (ds0 ++ [d]) (-1)).map _ = _
  rw [atI_last]
  rfl
theorem GI.pres {B H0 : List SZ} {q : SZ} {h : HP} (g : GI n B h H) (e : H = H0 ++ [q]) : ∃ v : SV, h.pres = [(n, v)] ∧ v.s = q.1 ∧ v.p = 0 := by
  rcases g.se with ⟨_, e2⟩ | ⟨k0, q0, H1, e1, eH, hk0⟩
  · rw [e2] at e
    exact absurd e.symm (by simp)
  · have eq : q0 = q := by
      rw [eH] at e
      have := congrArg List.getLast? e
      rw [List.getLast?_append, List.getLast?_append] at this
      simpa using this
    subst eq
    refine ⟨⟨q0.1, 0, q0.2.length, k0, true⟩, ?_, rfl, rfl⟩
    have en1 : h.names = [n] := by
      unfold HP.names srt
      rw [e1]
      simp
    unfold HP.pres
    rw [en1, e1]
    unfold AH.pres sget
    simp
theorem last_w {lh : Nat} {q : SZ} {B1 : List SZ} (el : h.lh = lh) (hs : Hs S (hallA h ++ ((ll, .lst (L.map lkD)) :: (L.map lkE ++ Y)))) (tb : (0, MO.tab 0 q0) ∈ Y) (b : Bs (L.map LK.q)) (eB : L.map LK.q = B1 ++ [q]) (g : GI n (L.map LK.q) h.st H) (lk : ∀ e ∈ L, LKok n H e) :
    W (F__law_is_last [.ref lh, .ref ll, .int n] S) fun o S' => o = .v (.bl true) := by
  have g : StL n (L.map LK.q) (L.map lkD) h.st H L := ⟨g, lk, rfl, rfl⟩
  have lD : (L.map lkD).length = (L.map LK.q).length := by rw [List.length_map, List.length_map]
  clear lk
  generalize L.map LK.q = B at b eB g lD
  generalize L.map lkD = Ds at hs g lD
  have lB : B.length = B1.length + 1 := by rw [eB, List.length_append]; rfl
  have up := b.up
  rw [eB, List.pairwise_append] at up
  have up : ∀ a ∈ B1, a.1 < q.1 := fun a ha => up.2.2 a ha q (List.mem_singleton_self _)
  refine w_run rfl ?_
  have z : rho0 12 [D.ref lh, D.ref ll, D.int (n : Int)] = [.val (.ref lh), .val (.ref ll), .val (.int n), .no, .no, .no, .no, .no, .no, .no, .no, .no] := rfl
  rw [z]
  unfold b__law_is_last
  refine ws_seq (rounds_w eB b el hs g ?_)
  clear hs g z el
  intro s3 s4 s5 s6 h H L S n3 n4 n5 n6 el g sn qH hs
  subst el
  have mxH : ∀ a ∈ H, a.1 ≤ q.1 := fun a ha => by
    have := g.g.hB a ha
    rw [eB] at this
    rcases List.mem_append.mp this with ha | ha
    · exact Nat.le_of_lt (up a ha)
    · rw [List.mem_singleton.mp ha]
      exact Nat.le_refl _
  have sn := sn q (last_max g.g.up qH mxH)
  have mt : (0, MO.tab 0 q0) ∈ hallA h ++ ((ll, .lst Ds) :: (L.map lkE ++ Y)) := by fail "MEM"
  have mh : (h.lh, MO.ins 3 [.lst (h.ps.map fun q => D.ref q.1), .ref h.ls]) ∈ hallA h ++ ((ll, .lst Ds) :: (L.map lkE ++ Y)) := List.mem_append_left _ mem_hall
  have ml : (ll, MO.lst Ds) ∈ hallA h ++ ((ll, .lst Ds) :: (L.map lkE ++ Y)) := List.mem_append_right _ List.mem_cons_self
  have g0 := hs.get mt
  fail "STAY"
  refine ws_seq ?_
  fail "STEP"
  rw [cut_upto1]
  refine ws_loop (fun k ρ S' => ∃ s4 s5 s6, ρ = [.val (.ref h.lh), .val (.ref ll), .val (.int n), s3, s4, s5, s6, .no, .no, .no, .no, .no] ∧ nA s4 ∧ nA s5 ∧ nA s6 ∧ S' = S) ⟨_, _, _, rfl, n4, n5, n6, rfl⟩ ?_ ?_
  · rintro k d ρ S' hk ⟨s4, s5, s6, rfl, n4, n5, n6, rfl⟩
    have kl := (List.getElem?_eq_some_iff.mp hk).1
    rw [List.length_take] at kl
    have hk : Ds[k]? = some d := by
      rw [← hk, List.getElem?_take, if_pos (by omega)]
    obtain ⟨e, he, rfl, em, eqB, eqk⟩ := g.at hk
    rw [eB, List.getElem?_append_left (by omega)] at eqk
    have ps : e.v.past = true := (sn e em).1 (up e.q (List.mem_of_getElem? eqk))
    have eg := (g.lk e em).g
    have mm : (e.l, lookO e.v) ∈ hallA h ++ ((ll, .lst Ds) :: (L.map lkE ++ Y)) := List.mem_append_right _ (List.mem_cons_of_mem _ (List.mem_append_left _ (List.mem_map_of_mem em)))
    have el : e.v.letters = [] := if_pos ps
    have lg := (g.lk e em).lg b g.g.n3 eqB
    fail "STEP"
    refine (lover_w (v := e.v) hs mm).mono fun o S1 e => ?_
    obtain ⟨rfl, rfl⟩ := e
    rw [ps]
    fail "STEP"
    refine wo_notB ?_
    fail "STEP"
    refine Br.dt rfl ?_
    fail "STEP"
    refine (lletters_w (v := e.v) hs mm lg).mono fun o S1 e => ?_
    obtain ⟨rfl, rfl⟩ := e
    rw [el]
    fail "STEP"
    refine wo_neE (xs := []) rfl nofun ?_
    fail "STEP"
    refine Br.bt rfl ?_
    fail "STEP"
    refine we_all1 g0 (show NoAcc [Sl.val (D.ref h.lh), .val (.ref ll), .val (.int n), s3, .val (.ref e.l), .val (.int e.v.s), .val (.str e.z), .no, .no, .no, .no, .no] from noacc_of fun s hs => ?_) ?_
    · simp only [List.mem_cons, List.not_mem_nil, or_false] at hs
      rcases hs with rfl | rfl | rfl | rfl | rfl | rfl | rfl | rfl | rfl | rfl | rfl | rfl
      all_goals first | exact nA.val | exact nA.no | assumption
    fail "STEP"
    refine wv_mt ?_
    refine wv_L ?_
    fail "STEP"
    refine ⟨e.l, _, rfl, hs.get mm, ?_⟩
    fail "STEP"
    refine (lpressX_past (v := e.v) (z := [97]) hs mm eg ps).mono fun o S1 e => ?_
    obtain ⟨rfl, rfl⟩ := e
    refine ⟨nlD, rfl, ?_⟩
    refine (alike_ok (.tup' (n := 7) (.cons .str (.cons .int .nil)) (by simp))).mono fun o S1 e => ?_
    obtain ⟨rfl, rfl⟩ := e
    refine ⟨rfl, ?_⟩
    fail "STEP"
    exact ⟨nA.val, nA.val, nA.val, rfl⟩
  rintro ρ S' ⟨s4, s5, s6, rfl, n4, n5, n6, rfl⟩
  have hD : Ds[B1.length]? = some (Ds[B1.length]'(by omega)) := List.getElem?_eq_getElem _
  obtain ⟨e, he, ed, em, eqB, eqk⟩ := g.at hD
  have eq : e.q = q := by
    rw [eB, List.getElem?_append_right (Nat.le_refl _), Nat.sub_self] at eqk
    exact (Option.some.inj eqk).symm
  have es : e.v.s = q.1 := congrArg Prod.fst eq
  have ez : e.z = q.2 := congrArg Prod.snd eq
  have np : e.v.past = false := by
    cases hp : e.v.past with
    | false => rfl
    | true =>
      obtain ⟨x, hx, lx⟩ := (g.lk e em).pa hp
      have := mxH x hx
      omega
  have sg : e.v.signs = [] := (sn e em).2 es
  have lst : ∃ Ds0, Ds = Ds0 ++ [lkD e] := by
    refine ⟨Ds.take B1.length, ?_⟩
    rw [← ed]
    have := List.take_append_drop B1.length Ds
    rw [List.drop_eq_getElem_cons (show B1.length < Ds.length by omega), List.drop_of_length_le (show Ds.length ≤ B1.length + 1 by omega)] at this
    exact this.symm
  obtain ⟨Ds0, lst⟩ := lst
  have mm : (e.l, lookO e.v) ∈ hallA h ++ ((ll, .lst Ds) :: (L.map lkE ++ Y)) := List.mem_append_right _ (List.mem_cons_of_mem _ (List.mem_append_left _ (List.mem_map_of_mem em)))
  obtain ⟨p, ep, gp, en⟩ := g.g.pn
  have nl := g.g.nl b
  have hp : h.st.ps[0]? = some p := by rw [ep]; rfl
  have hl3 : h.ps.length ≤ 3 := by rw [← HV.st_len, ep]; show 1 ≤ 3; decide
  have sub : ∀ x ∈ hallA h, x ∈ hallA h ++ ((ll, .lst Ds) :: (L.map lkE ++ Y)) := fun x hx => List.mem_append_left _ hx
  have hH : ∃ H0, H = H0 ++ [q] ∧ ∀ a ∈ H0, a.1 < q.1 := by
    have z := last_max g.g.up qH mxH
    rcases List.eq_nil_or_concat H with rfl | ⟨H0, x, e⟩
    · cases qH
    · rw [List.concat_eq_append] at e
      rw [e, List.getLast?_append] at z
      have z : x = q := by simpa using z
      subst z
      refine ⟨H0, e, fun a ha => ?_⟩
      have u := g.g.up
      rw [e, List.pairwise_append] at u
      exact u.2.2 a ha x (List.mem_singleton_self _)
  obtain ⟨H0, eH, h0⟩ := hH
  fail "STAY"
  refine ws_seq ?_
  fail "STEP"
  refine xo_ixLast hs ml lst ?_
  fail "STEP"
  refine wl_lc ?_
  fail "STEP"
  refine (htyped_w (i := 0) hs sub hp hl3).mono fun o S1 e => ?_
  obtain ⟨rfl, rfl⟩ := e
  fail "STEP"
  rw [en]
  refine ⟨fun k out S => S = S1 ∧ out = ((nts n H).take k).filterMap (fsel q.1), ⟨rfl, rfl⟩, ?_, ?_⟩
  · rintro k d out S hk ⟨rfl, rfl⟩
    obtain ⟨x, hx, c, hc, rfl⟩ := nts_get (List.mem_of_getElem? hk)
    refine ⟨_, rfl, ?_⟩
    fail "STEP"
    have st : ((nts n H).take (k + 1)).filterMap (fsel q.1) = ((nts n H).take k).filterMap (fsel q.1) ++ ([noteD n x.1 c].filterMap (fsel q.1)) := by
      rw [List.take_add_one, hk, Option.toList_some, List.filterMap_append]
    rw [es]
    refine ⟨fun z => ⟨rfl, ?_⟩, fun z => ?_⟩
    · have z : ¬ x.1 = q.1 := by have := of_decide_eq_false z; omega
      rw [st, List.filterMap_cons, fsel_note, if_neg z]
      simp
    · have z : x.1 = q.1 := by have := of_decide_eq_true z; omega
      refine we_var rfl ⟨rfl, ?_⟩
      rw [st, List.filterMap_cons, fsel_note, if_pos z]
      rfl
  rintro out S ⟨rfl, rfl⟩
  rw [List.take_length, eH, fsel_last h0]
  refine ⟨?_, ?_⟩
  · rw [List.length_map]
    have := (b.b q (by rw [eB]; simp)).2.1
    omega
  have qz := (b.b q (by rw [eB]; simp)).2
  fail "STEP"
  refine wo_joinC (by omega) ?_
  fail "STEP"
  refine Br.dt ez.symm ?_
  fail "STEP"
  refine (lover_w (v := e.v) hs mm).mono fun o S1 e => ?_
  obtain ⟨rfl, rfl⟩ := e
  rw [np]
  fail "STEP"
  refine (lwait_w (v := e.v) hs mm (by rw [sg]; decide)).mono fun o S1 e => ?_
  obtain ⟨rfl, rfl⟩ := e
  rw [sg]
  fail "STEP"
  refine Br.dt rfl ?_
  fail "STEP"
  refine (hlooks_w hs sub (by have := g.g.ok.len; rw [show h.ss.length = h.st.ss.length from (List.length_map _).symm]; exact this)).mono fun o S1 e => ?_
  obtain ⟨rfl, rfl⟩ := e
  fail "STEP"
  obtain ⟨v, pe, pv, pp⟩ := g.g.pres eH
  refine wo_eqSame (xs := [D.tup [.int n, .int q.1, .int 0]]) ?_ ?_ ?_ rfl
  · show some (h.st.pres.map _) = _
    rw [pe]
    show some [D.tup [.int n, .int v.s, .int v.p]] = _
    rw [pv, pp]
    rfl
  · rw [es]
    rfl
  · intro d hd
    rw [List.mem_singleton] at hd
    subst hd
    exact ⟨_, rfl, rfl, Nat.le_of_ble_eq_true rfl⟩
end
end K12
set_option maxRecDepth 100000
set_option maxHeartbeats 1000000
namespace K12
open AH PySem L2 TL
abbrev tabsA : Hm := [(0, .tab 0 q0)]
theorem begun_t {ns : List Int} (hl : ns.length ≤ 63) : W (F_begun [.scr ns] (Sto.tabs tl)) fun o S' => ∃ l m, ∃ g : BoxG l m, o = .v (.ref l) ∧ Hs S' (bxA l m g tabsA) := by
  refine (begun_ok hl).mono fun o S' e => ?_
  obtain ⟨l, m, rfl, b, up⟩ := e
  obtain ⟨q, hq⟩ := b.out
  obtain ⟨xs, hx, lx⟩ := b.inn
  have ne := b.ne
  have lt := b.lt
  have t0 : S'.get 0 = some (.tab 0 q0) := up.fr 0 (by decide)
  have nx : 1 ≤ S'.next := up.nx
  have l0 : l ≠ 0 := fun z => by rw [z, t0] at hq; cases hq
  have m0 : m ≠ 0 := fun z => by rw [z, t0] at hx; cases hx
  refine ⟨l, m, ⟨q, xs, lx, ne⟩, rfl, ?_, fun p hp => ?_, fun p hp => ?_⟩
  · simp
    omega
  · simp only [List.mem_cons, List.not_mem_nil, or_false] at hp
    rcases hp with rfl | rfl | rfl
    · exact hq
    · exact hx
    · exact t0
  · simp only [List.mem_cons, List.not_mem_nil, or_false] at hp
    rcases hp with rfl | rfl | rfl
    · exact lt
    · show m < _; omega
    · show 0 < _; omega
def nd2 : D → D
  | .tup [_, x, c] => .tup [x, c]
  | d => d
def dn (n : Nat) (H : List SZ) : List D := (nts n H).map nd2
theorem dn_app {n : Nat} {H H' : List SZ} : dn n (H ++ H') = dn n H ++ dn n H' := by
  unfold dn
  rw [nts_app, List.map_append]
theorem dn_len {n : Nat} {H : List SZ} : (dn n H).length = (nts n H).length := List.length_map _
theorem dn_get {n : Nat} {H : List SZ} {d : D} (h : d ∈ dn n H) : ∃ q ∈ H, ∃ c ∈ q.2, d = .tup [.int q.1, .str [c]] := by
  obtain ⟨x, hx, rfl⟩ := List.mem_map.mp h
  obtain ⟨q, hq, c, hc, rfl⟩ := nts_get hx
  exact ⟨q, hq, c, hc, rfl⟩
theorem dn_sd {n : Nat} {H B : List SZ} (b : Bs B) (hB : ∀ q ∈ H, q ∈ B) : ∀ d ∈ dn n H, Sd d := fun d hd => by
  obtain ⟨q, hq, c, hc, rfl⟩ := dn_get hd
  have h1 := (b.b q (hB q hq)).2.2 c hc
  have ok : okS [c] := okS_lt fun x hx => by
    rw [List.mem_singleton.mp hx]
    exact an_lt c (dg_an c h1).1
  refine ⟨.tuple [.int q.1, .str ⟨[c].toArray⟩], rfl, ?_, Nat.le_of_ble_eq_true rfl⟩
  have := okS_lay ok
  show (true && (_ && true)) = true
  rw [Bool.and_true, Bool.true_and]
  exact this
def fsel2 (s : Nat) : D → Option D
  | .tup [.int x, c] => if x = (s : Int) then some c else none
  | _ => none
theorem fm_congr {α β : Type} {f g : α → Option β} : ∀ {L : List α}, (∀ x ∈ L, f x = g x) → L.filterMap f = L.filterMap g
  | [], _ => rfl
  | x :: L, h => by
    rw [List.filterMap_cons, List.filterMap_cons, h x List.mem_cons_self, fm_congr fun y hy => h y (List.mem_cons_of_mem _ hy)]
theorem fsel2_dn {n s : Nat} {H : List SZ} : (dn n H).filterMap (fsel2 s) = (nts n H).filterMap (fsel s) := by
  unfold dn
  rw [List.filterMap_map]
  refine fm_congr fun d hd => ?_
  obtain ⟨q, hq, c, hc, rfl⟩ := nts_get hd
  rfl
theorem fsel2_one {s : Nat} {x : Int} {d : D} : [D.tup [.int x, d]].filterMap (fsel2 s) = if x = (s : Int) then [d] else [] := by
  have e : fsel2 s (.tup [.int x, d]) = if x = (s : Int) then some d else none := rfl
  rw [List.filterMap_cons, e]
  by_cases h : x = s
  · rw [if_pos h, if_pos h]
    rfl
  · rw [if_neg h, if_neg h]
    rfl
structure TI (n t : Nat) (h : HP) (H : List SZ) (L : List LK) (T : List (LM × SZ)) (s : Nat) : Prop where
  b : Bs (L.map LK.q)
  g : GI n (L.map LK.q) h H
  lk : ∀ e ∈ L, LKok n H e
  len : L.length = t
  ts : ∀ x ∈ T, LtB n (L.map LK.q) H x.1 x.2
  tl : T.length ≤ 3 * t
  sx : ∀ e ∈ L, e.v.s ≤ s
  sb : s ≤ 16000 * t
theorem fold_keep {q : SZ} : ∀ {ms : List (LM × SZ)} {H : List SZ}, q ∈ H → (∀ x ∈ ms, x.2.1 ≤ q.1) → fold H ms = H
  | [], _, _, _ => rfl
  | x :: ms, H, hq, h => by
    have e : nxt H x.2 = H := if_neg fun z => Nat.not_lt.mpr (h x List.mem_cons_self) (z q hq)
    show fold (nxt H x.2) ms = H
    rw [e]
    exact fold_keep hq fun y hy => h y (List.mem_cons_of_mem _ hy)
/-- the new look's -/
structure NL (n : Nat) (B : List SZ) (Ds : List D) (H0 : List SZ) (q : SZ) (T : List (LM × SZ)) (h : HP) (H : List SZ) (L : List LK) (late : List (LM × SZ)) : Prop where
  g : StL n B Ds h H L
  ts : ∀ x ∈ T, LtB n B H x.1 x.2
  la : ∀ x ∈ late, LtB n B H x.1 x.2 ∧ x.2 = q
  H : H = H0 ∨ H = H0 ++ [q]
end K12
set_option maxRecDepth 100000
set_option maxHeartbeats 1000000
namespace K12
open AH PySem L2 TL
abbrev lmD (T : List (LM × SZ)) : D := .lst (T.map fun x => .str (lmT x.1))
abbrev hal (h : HV) (ll : Nat) (Ds : List D) (L : List LK) : Hm := hallA h ++ ((ll, .lst Ds) :: (L.map lkE ++ tabsA))
theorem law_true (ns : List Int) (hl : ns.length ≤ 63) : ∃ S', F_law [.scr ns] (Sto.tabs tl) = some (.v (.bl true), S') := by
  suffices h : W (F_law [.scr ns] (Sto.tabs tl)) fun o _ => o = .v (.bl true) by
    obtain ⟨o, S', e, rfl⟩ := h
    exact ⟨S', e⟩
  refine w_run rfl ?_
  have z : rho0 17 [D.scr ns] = [.val (.scr ns), .no, .no, .no, .no, .no, .no, .no, .no, .no, .no, .no, .no, .no, .no, .no, .no] := rfl
  rw [z]
  unfold b_law
  fail "STAY"
  refine ws_seq ?_
  fail "STEP"
  refine (begun_t hl).mono fun o S e => ?_
  obtain ⟨l, m, g, rfl, hs⟩ := e
  fail "STAY"
  refine xs_cut (fun ρ S => ∃ (g : BoxG l m) (h : HV) (n : Nat), ρ = [.val (.scr ns), .val (.ref l), .val (.ref h.lh), .val (.int n), .no, .no, .no, .no, .no, .no, .no, .no, .no, .no, .no, .no, .no] ∧ n ≤ 3 ∧ h.st = ⟨[p0], []⟩ ∧ Hs S (bxA l m g (hallA h ++ tabsA))) ?_ ?_
  · fail "STEP"
    have hs1 := hs.perm (B := (ln, .ins 3 []) :: bxA l m g tabsA) (by unfold bxA; fail "PRM")
    clear hs
    refine (hinit_w (n := 1) (Y := bxA l m g tabsA) hs1 (by decide)).mono fun o S e => ?_
    obtain ⟨rfl, h, elh, est, hs⟩ := e
    refine ⟨rfl, ?_⟩
    clear hs1
    subst elh
    fail "STEP"
    refine (draw_w (n := 4) (l := l) (m := m) (g := g) (A := hallA h ++ tabsA) (hs.perm (by unfold bxA; fail "PRM")) (by decide) (by decide)).mono fun o S e => ?_
    obtain ⟨n, g, rfl, hn, hs⟩ := e
    fail "STEP"
    exact ⟨rfl, g, h, n, rfl, by omega, est, hs⟩
  clear hs
  rintro ρ S ⟨g, h, n, rfl, n3, est, hs⟩
  fail "STAY"
  refine xs_cut (fun ρ S => ∃ ll, ρ = [.val (.scr ns), .val (.ref l), .val (.ref h.lh), .val (.int n), .val (.ref ll), .val (.lst []), .val (.lst []), .no, .no, .no, .no, .no, .no, .no, .no, .no, .no] ∧ Hs S (bxA l m g (hal h ll [] []))) ?_ ?_
  · fail "STEP"
    exact ⟨rfl, _, rfl, hs.perm (by unfold bxA hal; simp only [List.map_nil, List.nil_append]; fail "PRM")⟩
  clear hs
  rintro ρ S ⟨ll, rfl, hs⟩
  have T0 : TI n 0 h.st [] [] [] 0 := by
    refine ⟨⟨nofun, .nil, Nat.zero_le _⟩, ⟨n3, ⟨p0, by rw [est], PL.zero, rfl⟩, .inl ⟨by rw [est], rfl⟩, .nil, nofun⟩, nofun, rfl, nofun, Nat.zero_le _, nofun, Nat.zero_le _⟩
  fail "ONE"
  fail "STEP"
  refine (draw_w (n := 6) hs (by decide) (by decide)).mono fun o S e => ?_
  obtain ⟨N, g, rfl, hN, hs⟩ := e
  fail "STEP"
  refine ⟨by omega, ?_⟩
  rw [show ((1 : Int) + (N : Nat)).toNat = 1 + N by omega]
  obtain ⟨lh, elh⟩ : ∃ lh, h.lh = lh := ⟨_, rfl⟩
  rw [elh]
  refine ws_loop (fun t ρ S => ∃ s8 s9 s10 s11 s12 s13 s14 s15 s16, ∃ (g : BoxG l m) (h : HV) (H : List SZ) (L : List LK) (T : List (LM × SZ)) (s : Nat), ρ = [.val (.scr ns), .val (.ref l), .val (.ref lh), .val (.int n), .val (.ref ll), .val (.lst (dn n H)), .val (lmD T), .val (.int s), s8, s9, s10, s11, s12, s13, s14, s15, s16] ∧ h.lh = lh ∧ Hs S (bxA l m g (hal h ll (L.map lkD) L)) ∧ TI n t h.st H L T s) ⟨_, _, _, _, _, _, _, _, _, g, h, [], [], [], 0, rfl, elh, hs, T0⟩ ?_ ?_
  rotate_left
  · clear hs T0 est elh
    rintro ρ S ⟨s8, s9, s10, s11, s12, s13, s14, s15, s16, g, h, H, L, T, s, rfl, elh, hs, I⟩
    rw [rng_len] at I
    fail "STEP"
    have ne : L.map LK.q ≠ [] := fun z => by
      have h1 := congrArg List.length z
      rw [List.length_map, I.len] at h1
      simp at h1
    obtain ⟨B1, q, eB⟩ : ∃ B1 q, L.map LK.q = B1 ++ [q] := by
      rcases List.eq_nil_or_concat (L.map LK.q) with e | ⟨B1, q, e⟩
      · exact absurd e ne
      · exact ⟨B1, q, by rw [e, List.concat_eq_append]⟩
    refine (last_w (Y := (l, .lst [.ref m, .int g.q]) :: (m, .lst (g.xs.map .int)) :: tabsA) elh (hs.perm (by unfold bxA hal; fail "PRM")) (by simp) I.b eB I.g I.lk).mono fun o S e => ?_
    subst e
    rfl
  clear hs T0 est elh
  rintro t d ρ S ht ⟨s8, s9, s10, s11, s12, s13, s14, s15, s16, g, h, H, L, T, s, rfl, elh, hs, I⟩
  obtain ⟨rfl, tT⟩ := rng_get ht
  have b := I.b
  fail "STAY"
  refine xs_cut (fun ρ S => ∃ (g : BoxG l m) (s' : Nat), ρ = [.val (.scr ns), .val (.ref l), .val (.ref lh), .val (.int n), .val (.ref ll), .val (.lst (dn n H)), .val (lmD T), .val (.int s'), .val (.int (0 + (t : Nat))), s9, s10, s11, s12, s13, s14, s15, s16] ∧ s < s' ∧ s' ≤ s + 16000 ∧ Hs S (bxA l m g (hal h ll (L.map lkD) L))) ?_ ?_
  · fail "STEP"
    refine (draw_w (n := 3) hs (by decide) (by decide)).mono fun o S e => ?_
    obtain ⟨r3, g, rfl, hr3, hs⟩ := e
    fail "STEP"
    refine wo_ixI (xs := [1, 9, 16000]) hr3 fun y hy => ?_
    obtain ⟨num, hnum, rfl⟩ : ∃ k : Nat, (0 < k ∧ k ≤ 16000) ∧ y = (k : Int) := by
      simp at hy
      rcases hy with e | e | e
      · exact ⟨1, by omega, e⟩
      · exact ⟨9, by omega, e⟩
      · exact ⟨16000, by omega, e⟩
    fail "STEP"
    refine (draw_w (n := num) hs (by omega) (by omega)).mono fun o S e => ?_
    obtain ⟨r, g, rfl, hr, hs⟩ := e
    fail "STEP"
    rw [show (s : Int) + 1 + (r : Nat) = ((s + 1 + r : Nat) : Int) by omega]
    exact ⟨rfl, g, s + 1 + r, rfl, by omega, by omega, hs⟩
  clear hs
  rintro ρ S ⟨g, s', rfl, s1, s2, hs⟩
  fail "STAY"
  refine xs_cut (fun ρ S => ∃ (g : BoxG l m) (z : List Nat), ρ = [.val (.scr ns), .val (.ref l), .val (.ref lh), .val (.int n), .val (.ref ll), .val (.lst (dn n H)), .val (lmD T), .val (.int s'), .val (.int (0 + (t : Nat))), .val (.str z), s10, s11, s12, s13, s14, s15, s16] ∧ z.length ≤ 10 ∧ (∀ c ∈ z, c ∈ dgs) ∧ Hs S (bxA l m g (hal h ll (L.map lkD) L))) ?_ ?_
  · fail "STEP"
    refine (draw_w (n := 11) hs (by decide) (by decide)).mono fun o S e => ?_
    obtain ⟨r, g, rfl, hr, hs⟩ := e
    fail "STEP"
    rw [cut_lo]
    exact ⟨rfl, g, dgs.take r, rfl, by rw [List.length_take]; exact Nat.le_trans (Nat.min_le_right _ _) (by decide), fun c hc => List.mem_of_mem_take hc, hs⟩
  clear hs
  rintro ρ S ⟨g, z, rfl, zl, zd, hs⟩
  have sm : s' ≤ 96000 := by
    have := I.sb
    omega
  have sm0 : 1 ≤ s' := by omega
  fail "STAY"
  refine xs_cut (fun ρ S => ∃ ln, ρ = [.val (.scr ns), .val (.ref l), .val (.ref lh), .val (.int n), .val (.ref ll), .val (.lst (dn n H)), .val (lmD T), .val (.int s'), .val (.int (0 + (t : Nat))), .val (.str z), s10, s11, s12, s13, s14, s15, s16] ∧ Hs S (bxA l m g (hal h ll (L.map lkD ++ [.tup [.ref ln, .int s', .str z]]) (L ++ [LK.mk ln (LV.new n s' 0 20 5) z])))) ?_ ?_
  · fail "STEP"
    have hs1 := hs
    clear hs
    refine (linit_w (n := n) (s := s') (p := 0) (w := 20) (h := 5) (A' := bxA l m g ((ln, lookO (LV.new n s' 0 20 5)) :: hal h ll (L.map lkD) L)) hs1 (by fail "UDD") n3 (by omega) (by decide) (by decide) (by decide)).mono fun o S e => ?_
    obtain ⟨rfl, hs⟩ := e
    clear hs1
    refine ⟨rfl, ?_⟩
    have lL := I.len
    have lM : (L.map lkD).length = t := by rw [List.length_map, lL]
    fail "STEP"
    refine ⟨rfl, ln, rfl, ?_⟩
    unfold hal
    rw [List.map_append]
    show Hs S (bxA l m g (hallA h ++ ((ll, .lst (L.map lkD ++ [.tup [.ref ln, .int s', .str z]])) :: (L.map lkE ++ [(ln, lookO (LV.new n s' 0 20 5))] ++ tabsA))))
    exact hs.perm (by unfold bxA hallA; fail "PRM")
  clear hs
  rintro ρ S ⟨ln, rfl, hs⟩
  generalize eD : L.map lkD ++ [D.tup [.ref ln, .int s', .str z]] = Ds at hs
  fail "STAY"
  refine xs_cut (fun ρ S => ρ = [.val (.scr ns), .val (.ref l), .val (.ref lh), .val (.int n), .val (.ref ll), .val (.lst (dn n H)), .val (lmD T), .val (.int s'), .val (.int (0 + (t : Nat))), .val (.str z), s10, s11, s12, s13, s14, s15, s16] ∧ Hs S (bxA l m g (hal h ll Ds (L ++ [LK.mk ln ⟨n, s', 0, 20, 5, [], [], none, 0, z, false, false⟩ z])))) ?_ ?_
  · have ml : (ll, MO.lst Ds) ∈ bxA l m g (hal h ll Ds (L ++ [LK.mk ln (LV.new n s' 0 20 5) z])) := List.mem_cons_of_mem _ (List.mem_cons_of_mem _ (List.mem_append_right _ List.mem_cons_self))
    have mm : (ln, lookO (LV.new n s' 0 20 5)) ∈ bxA l m g (hal h ll Ds (L ++ [LK.mk ln (LV.new n s' 0 20 5) z])) := by
      refine List.mem_cons_of_mem _ (List.mem_cons_of_mem _ (List.mem_append_right _ (List.mem_cons_of_mem _ (List.mem_append_left _ ?_))))
      rw [List.map_append]
      simp
    have u0 : Ud ((L ++ [LK.mk ln (LV.new n s' 0 20 5) z]).map lkE) ln (lookO (LV.new n s' 0 20 5)) (lookO ⟨n, s', 0, 20, 5, [], [], none, 0, z, false, false⟩) ((L ++ [LK.mk ln ⟨n, s', 0, 20, 5, [], [], none, 0, z, false, false⟩ z]).map lkE) := by
      rw [List.map_append, List.map_append]
      exact Ud.rt Ud.hd
    have ep : F_Look_press_o = AH.F_Look_press := rfl
    fail "STEP"
    refine xo_ixLast (ds0 := L.map lkD) hs ml eD.symm ?_
    fail "STEP"
    rw [ep]
    refine (lpress_w (v := LV.new n s' 0 20 5) (z := z) (A' := bxA l m g (hal h ll Ds (L ++ [LK.mk ln ⟨n, s', 0, 20, 5, [], [], none, 0, z, false, false⟩ z]))) hs (Ud.tl (Ud.tl (Ud.rt (Ud.tl (Ud.lf u0))))) rfl rfl (fun c hc => (dg_an c (zd c hc)).1) (by show 0 + z.length ≤ _; omega)).mono fun o S e => ?_
    obtain ⟨rfl, hs⟩ := e
    fail "STEP"
    exact ⟨rfl, rfl, hs⟩
  clear hs
  rintro ρ S ⟨rfl, hs⟩
  have lL := I.len
  have N0 : NL n (L.map LK.q ++ [(s', z)]) Ds H (s', z) T h.st H (L ++ [LK.mk ln ⟨n, s', 0, 20, 5, [], [], none, 0, z, false, false⟩ z]) [] := by
    refine ⟨⟨⟨I.g.n3, I.g.pn, I.g.se, I.g.up, fun q hq => List.mem_append_left _ (I.g.hB q hq)⟩, fun e he => ?_, by rw [List.map_append]; rfl, by rw [List.map_append, ← eD]; rfl⟩, fun x hx => (I.ts x hx).mono (fun q hq => List.mem_append_left _ hq) (fun q hq => hq), nofun, .inl rfl⟩
    rcases List.mem_append.mp he with he | he
    · exact I.lk e he
    · rw [List.mem_singleton.mp he]
      exact ⟨rfl, rfl, rfl, rfl, rfl, ⟨rfl, ⟨Nat.zero_le _, nofun⟩, nofun⟩, .inl ⟨rfl, rfl⟩, nofun⟩
  have b' : Bs (L.map LK.q ++ [(s', z)]) := by
    refine ⟨fun q hq => ?_, ?_, ?_⟩
    · rcases List.mem_append.mp hq with hq | hq
      · exact b.b q hq
      · rw [List.mem_singleton.mp hq]
        exact ⟨by show s' < 1000000; omega, zl, zd⟩
    · rw [List.pairwise_append]
      refine ⟨b.up, List.pairwise_singleton _ _, fun a ha x hx => ?_⟩
      rw [List.mem_singleton.mp hx]
      obtain ⟨e, he, rfl⟩ := List.mem_map.mp ha
      exact Nat.lt_of_le_of_lt (I.sx e he) s1
    · rw [List.length_append, List.length_map, lL, List.length_singleton]
      omega
  have lo : ∀ a ∈ L.map LK.q, a.1 < s' := fun a ha => by
    obtain ⟨e, he, rfl⟩ := List.mem_map.mp ha
    exact Nat.lt_of_le_of_lt (I.sx e he) s1
  have tln := I.tl
  have hHlo : ∀ a ∈ H, a.1 < s' := fun a ha => lo a (I.g.hB a ha)
  fail "STAY"
  fail "ONE"
  refine ws_seq ?_
  fail "STEP"
  refine (draw_w (n := 4) hs (by decide) (by decide)).mono fun o S e => ?_
  obtain ⟨M, g, rfl, hM, hs⟩ := e
  fail "STEP"
  refine ⟨by omega, ?_⟩
  rw [show ((M : Nat) : Int).toNat = M by omega]
  refine ws_loop (fun k ρ S => ∃ (s11 : Sl) (g : BoxG l m) (h' : HV) (H' : List SZ) (L' : List LK) (late : List (LM × SZ)), ρ = [.val (.scr ns), .val (.ref l), .val (.ref lh), .val (.int n), .val (.ref ll), .val (.lst (dn n H)), .val (lmD T), .val (.int s'), .val (.int (0 + (t : Nat))), .val (.str z), .val (lmD late), s11, s12, s13, s14, s15, s16] ∧ h'.lh = lh ∧ NL n (L.map LK.q ++ [(s', z)]) Ds H (s', z) T h'.st H' L' late ∧ late.length = k ∧ Hs S (bxA l m g (hal h' ll Ds L'))) ⟨_, g, h, H, _, [], rfl, elh, N0, rfl, hs⟩ ?_ ?_
  · clear hs N0 elh
    rintro k d ρ S hk ⟨s11, g, h, H', L', late, rfl, elh, N, lk, hs⟩
    obtain ⟨rfl, kM⟩ := rng_get hk
    have hD : Ds[L.length]? = some (.tup [.ref ln, .int s', .str z]) := by
      rw [← eD, List.getElem?_append_right (by rw [List.length_map]; omega), List.length_map, Nat.sub_self]
      rfl
    obtain ⟨e, he, ed, em, eqB, eqk⟩ := N.g.at hD
    have eq : e.q = (s', z) := by
      rw [List.getElem?_append_right (by rw [List.length_map]; omega), List.length_map, Nat.sub_self] at eqk
      exact (Option.some.inj eqk).symm
    have el : e.l = ln := by
      have := ed
      simp only [lkD, D.tup.injEq, List.cons.injEq, D.ref.injEq] at this
      exact this.1.symm
    have mx : ∀ a ∈ L.map LK.q ++ [(s', z)], a.1 ≤ s' := fun a ha => by
      rcases List.mem_append.mp ha with ha | ha
      · exact Nat.le_of_lt (lo a ha)
      · rw [List.mem_singleton.mp ha]
        exact Nat.le_refl _
    obtain ⟨tm, le, lt⟩ : ∃ tm, e.v.letters = [tm] ∧ LtB n (L.map LK.q ++ [(s', z)]) H' tm (s', z) := by
      rcases (N.g.lk e em).lets b' eqB with ⟨h1, h2⟩ | ⟨h1, tm, h2, h3⟩
      · obtain ⟨x, hx, lx⟩ := (N.g.lk e em).pa h1
        have := mx x (N.g.g.hB x hx)
        have es : e.v.s = s' := congrArg Prod.fst eq
        omega
      · rw [eq] at h3
        exact ⟨tm, h2, h3⟩
    have lg := (N.g.lk e em).lg b' n3 eqB
    have ml : (ll, MO.lst Ds) ∈ bxA l m g (hal h ll Ds L') := List.mem_cons_of_mem _ (List.mem_cons_of_mem _ (List.mem_append_right _ List.mem_cons_self))
    have mm : (e.l, lookO e.v) ∈ bxA l m g (hal h ll Ds L') := List.mem_cons_of_mem _ (List.mem_cons_of_mem _ (List.mem_append_right _ (List.mem_cons_of_mem _ (List.mem_append_left _ (List.mem_map_of_mem em)))))
    rw [el] at mm
    fail "STAY"
    refine xs_cut (fun ρ S => ρ = [.val (.scr ns), .val (.ref l), .val (.ref lh), .val (.int n), .val (.ref ll), .val (.lst (dn n H)), .val (lmD T), .val (.int s'), .val (.int (0 + (t : Nat))), .val (.str z), .val (lmD (late ++ [(tm, (s', z))])), .val (.int (0 + (k : Nat))), s12, s13, s14, s15, s16] ∧ Hs S (bxA l m g (hal h ll Ds L'))) ?_ ?_
    · fail "STEP"
      refine xo_ixLast (ds0 := L.map lkD) hs ml eD.symm ?_
      fail "STEP"
      refine (lletters_w (v := e.v) hs mm lg).mono fun o S1 e => ?_
      obtain ⟨rfl, rfl⟩ := e
      rw [le]
      fail "STEP"
      refine ⟨rfl, ?_, hs⟩
      unfold lmD
      rw [List.map_append]
      rfl
    clear hs
    rintro ρ S ⟨rfl, hs⟩
    fail "STEP"
    refine (draw_w (n := 2) hs (by decide) (by decide)).mono fun o S e => ?_
    obtain ⟨r2, g, rfl, hr2, hs⟩ := e
    fail "STEP"
    have la' : ∀ x ∈ late ++ [(tm, (s', z))], LtB n (L.map LK.q ++ [(s', z)]) H' x.1 x.2 ∧ x.2 = (s', z) := fun x hx => by
      rcases List.mem_append.mp hx with hx | hx
      · exact N.la x hx
      · rw [List.mem_singleton.mp hx]
        exact ⟨lt, rfl⟩
    refine Br.d (fun zz => ?_) (fun zz => ?_)
    rotate_left
    · fail "STEP"
      exact ⟨_, g, h, H', L', late ++ [(tm, (s', z))], rfl, elh, ⟨N.g, N.ts, la', N.H⟩, by rw [List.length_append, lk]; rfl, hs⟩
    fail "STEP"
    rw [← List.map_append]
    have lq : L'.map LK.q = L.map LK.q ++ [(s', z)] := N.g.q
    have qB : (s', z) ∈ L.map LK.q ++ [(s', z)] := List.mem_append_right _ (List.mem_singleton_self _)
    have hall : ∀ x ∈ (late ++ [(tm, (s', z))]) ++ T, LtB n (L.map LK.q ++ [(s', z)]) H' x.1 x.2 := fun x hx => by
      rcases List.mem_append.mp hx with hx | hx
      · exact (la' x hx).1
      · exact N.ts x hx
    have efold : fold H' ((late ++ [(tm, (s', z))]) ++ T) = H ++ [(s', z)] := by
      have e1 : nxt H' (s', z) = H ++ [(s', z)] := by
        rcases N.H with e | e
        · rw [e]
          exact if_pos hHlo
        · rw [e]
          exact if_neg fun zz => Nat.lt_irrefl _ (zz (s', z) (List.mem_append_right _ (List.mem_singleton_self _)))
      obtain ⟨x0, ms, em⟩ : ∃ x0 ms, (late ++ [(tm, (s', z))]) ++ T = x0 :: ms := by
        cases late with
        | nil => exact ⟨_, _, rfl⟩
        | cons y ys => exact ⟨_, _, rfl⟩
      have x0q : x0.2 = (s', z) := by
        cases late with
        | nil =>
          cases em
          rfl
        | cons y ys =>
          have : y = x0 := (List.cons.inj em).1
          rw [← this]
          exact (la' y List.mem_cons_self).2
      rw [em]
      show fold (nxt H' x0.2) ms = _
      rw [x0q, e1]
      refine fold_keep (q := (s', z)) (List.mem_append_right _ (List.mem_singleton_self _)) fun x hx => ?_
      have hx : x ∈ (late ++ [(tm, (s', z))]) ++ T := by rw [em]; exact List.mem_cons_of_mem _ hx
      exact mx _ (hall x hx).hq
    rw [← N.g.d] at hs
    refine (ahear_w (n := n) (H := H') (L := L') (Y := (l, .lst [.ref m, .int g.q]) :: (m, .lst (g.xs.map .int)) :: tabsA) elh (hs.perm (by unfold bxA hal; fail "PRM")) (by rw [lq]; exact b') (by rw [lq]; exact N.g.g) N.g.lk (by rw [lq]; exact hall)).mono fun o S2 e => ?_
    obtain ⟨rfl, h2, L2, eh2, ot, hs⟩ := e
    rw [efold] at ot
    have g2 : StL n (L.map LK.q ++ [(s', z)]) Ds h2.st (H ++ [(s', z)]) L2 := ⟨by have := ot.g; rw [lq] at this; exact this, ot.lk, ot.q.trans lq, ot.d.trans N.g.d⟩
    have hmono : ∀ q ∈ H', q ∈ H ++ [(s', z)] := fun q hq => by
      rcases N.H with e | e
      · rw [e] at hq
        exact List.mem_append_left _ hq
      · rw [e] at hq
        exact hq
    rw [g2.d] at hs
    fail "STEP"
    exact ⟨_, g, h2, H ++ [(s', z)], L2, late ++ [(tm, (s', z))], rfl, eh2, ⟨g2, fun x hx => (N.ts x hx).mono (fun q h => h) hmono, fun x hx => ⟨(la' x hx).1.mono (fun q h => h) hmono, (la' x hx).2⟩, .inr rfl⟩, by rw [List.length_append, lk]; rfl, hs.perm (by unfold bxA hal; fail "PRM")⟩
  clear hs N0 elh
  rintro ρ S ⟨s11, g, h, H', L', late, rfl, elh, N, lk, hs⟩
  rw [rng_len] at lk
  have nl := N.g.g.nl b'
  obtain ⟨p, ep, gp, en⟩ := N.g.g.pn
  have hp : h.st.ps[0]? = some p := by rw [ep]; rfl
  have hl3 : h.ps.length ≤ 3 := by rw [← HV.st_len, ep]; show 1 ≤ 3; decide
  have sub : ∀ x ∈ hallA h, x ∈ bxA l m g (hal h ll Ds L') := fun x hx => List.mem_cons_of_mem _ (List.mem_cons_of_mem _ (List.mem_append_left _ hx))
  fail "STAY"
  refine xs_cut (fun ρ S => ρ = [.val (.scr ns), .val (.ref l), .val (.ref lh), .val (.int n), .val (.ref ll), .val (.lst (dn n H)), .val (lmD (T ++ late)), .val (.int s'), .val (.int (0 + (t : Nat))), .val (.str z), .val (lmD late), s11, s12, s13, s14, s15, s16] ∧ Hs S (bxA l m g (hal h ll Ds L'))) ?_ ?_
  · fail "STEP"
    refine ⟨rfl, ?_, hs⟩
    unfold lmD
    rw [List.map_append]
    rfl
  clear hs
  rintro ρ S ⟨rfl, hs⟩
  have mh : (h.lh, MO.ins 3 [.lst (h.ps.map fun q => D.ref q.1), .ref h.ls]) ∈ bxA l m g (hal h ll Ds L') := sub _ mem_hall
  rw [elh] at mh
  fail "STAY"
  refine xs_cut (fun ρ S => ρ = [.val (.scr ns), .val (.ref l), .val (.ref lh), .val (.int n), .val (.ref ll), .val (.lst (dn n H)), .val (lmD (T ++ late)), .val (.int s'), .val (.int (0 + (t : Nat))), .val (.str z), .val (lmD late), s11, .val (.lst (dn n H')), s13, s14, s15, s16] ∧ Hs S (bxA l m g (hal h ll Ds L'))) ?_ ?_
  · fail "STEP"
    refine wl_lc ?_
    fail "STEP"
    rw [← elh]
    refine (htyped_w (i := 0) hs sub hp hl3).mono fun o S1 e => ?_
    obtain ⟨rfl, rfl⟩ := e
    fail "STEP"
    rw [en]
    refine ⟨fun k out S => S = S1 ∧ out = ((nts n H').take k).map nd2, ⟨rfl, rfl⟩, ?_, ?_⟩
    · rintro k d out S hk ⟨rfl, rfl⟩
      obtain ⟨x, hx, c, hc, rfl⟩ := nts_get (List.mem_of_getElem? hk)
      refine ⟨_, rfl, ?_⟩
      fail "STEP"
      refine ⟨nofun, fun _ => ?_⟩
      fail "STEP"
      refine ⟨rfl, ?_⟩
      rw [List.take_add_one, hk, Option.toList_some, List.map_append]
      rfl
    rintro out S ⟨rfl, rfl⟩
    rw [List.take_length]
    refine ⟨?_, ?_⟩
    · rw [List.length_map]
      omega
    fail "STEP"
    exact ⟨rfl, rfl, hs⟩
  clear hs
  rintro ρ S ⟨rfl, hs⟩
  obtain ⟨X, eX, hX, z', ez, ezt⟩ : ∃ X, H' = H ++ X ∧ (∀ x ∈ X, x = (s', z)) ∧ ∃ z' : List Nat, (dn n H').filterMap (fsel2 s') = z'.map (fun c => D.str [c]) ∧ z' = z.take z'.length := by
    rcases N.H with e | e
    · refine ⟨[], by rw [e, List.append_nil], nofun, [], ?_, rfl⟩
      rw [fsel2_dn, e, fsel_no fun a ha => Nat.ne_of_lt (hHlo a ha)]
      rfl
    · refine ⟨[(s', z)], e, fun x hx => List.mem_singleton.mp hx, z, ?_, (List.take_length).symm⟩
      rw [fsel2_dn, e]
      exact fsel_last (q := (s', z)) hHlo
  have dl : (dn n H').length ≤ 60 := by rw [dn_len]; exact nl
  have zl' : z'.length ≤ 10 := by
    rw [ezt, List.length_take]
    omega
  fail "STAY"
  refine xs_cut (fun ρ S => ∃ s14 s15, ρ = [.val (.scr ns), .val (.ref l), .val (.ref lh), .val (.int n), .val (.ref ll), .val (.lst (dn n H)), .val (lmD (T ++ late)), .val (.int s'), .val (.int (0 + (t : Nat))), .val (.str z), .val (lmD late), s11, .val (.lst (dn n H')), s13, s14, s15, .val (.lst (z'.map fun c => D.str [c]))] ∧ Hs S (bxA l m g (hal h ll Ds L'))) ?_ ?_
  · fail "STEP"
    refine wl_lc ?_
    refine wi_L (we_var rfl (.inl ⟨_, rfl, ?_⟩))
    refine ⟨fun k out S' => S' = S ∧ out = ((dn n H').take k).filterMap (fsel2 s'), ⟨rfl, rfl⟩, ?_, ?_⟩
    · rintro k d out S hk ⟨rfl, rfl⟩
      obtain ⟨x, hx, c, hc, rfl⟩ := dn_get (List.mem_of_getElem? hk)
      have st : ((dn n H').take (k + 1)).filterMap (fsel2 s') = ((dn n H').take k).filterMap (fsel2 s') ++ ([D.tup [.int x.1, .str [c]]].filterMap (fsel2 s')) := by
        rw [List.take_add_one, hk, Option.toList_some, List.filterMap_append]
      refine ⟨_, rfl, ?_⟩
      fail "STEP"
      refine ⟨fun zz => ⟨rfl, ?_⟩, fun zz => ?_⟩
      · have zz : ¬ ((x.1 : Int) = (s' : Int)) := of_decide_eq_false zz
        rw [st, fsel2_one, if_neg zz, List.append_nil]
      · have zz : (x.1 : Int) = (s' : Int) := of_decide_eq_true zz
        refine we_var rfl ⟨rfl, ?_⟩
        rw [st, fsel2_one, if_pos zz]
    rintro out S ⟨rfl, rfl⟩
    rw [List.take_length, ez]
    refine ⟨by rw [List.length_map]; omega, ?_⟩
    fail "STEP"
    exact ⟨rfl, _, _, rfl, hs⟩
  clear hs
  rintro ρ S ⟨s14, s15, rfl, hs⟩
  have tk : (dn n H').take (dn n H).length = dn n H := by
    rw [eX, dn_app, List.take_left']
    rfl
  have dp : (dn n H').drop (dn n H).length = dn n X := by
    rw [eX, dn_app, List.drop_left']
    rfl
  fail "ONE"
  rw [cut_lo, tk]
  refine wo_neSame (xs := dn n H) rfl rfl (dn_sd b I.g.hB) ?_
  fail "STEP"
  refine wl_lc ?_
  fail "STEP"
  rw [cut_hi, dp]
  refine ⟨fun k out S' => S' = S ∧ out = [], ⟨rfl, rfl⟩, ?_, ?_⟩
  · rintro k d out S hk ⟨rfl, rfl⟩
    obtain ⟨x, hx, c, hc, rfl⟩ := dn_get (List.mem_of_getElem? hk)
    have e := hX x hx
    subst e
    refine ⟨_, rfl, ?_⟩
    fail "STEP"
    refine ⟨fun _ => ⟨rfl, rfl⟩, fun zz => ?_⟩
    rw [decide_eq_true rfl] at zz
    cases zz
  rintro out S ⟨rfl, rfl⟩
  refine ⟨by decide, ?_⟩
  fail "STEP"
  refine wo_neE (xs := []) rfl nofun ?_
  fail "STEP"
  refine Br.bt rfl ?_
  fail "STEP"
  refine wo_joinC (by omega) ?_
  fail "STEP"
  rw [List.length_map, cut_lo, ← ezt]
  fail "STEP"
  refine Br.dt rfl ?_
  fail "STEP"
  have lL' : L'.length = t + 1 := by
    have := congrArg List.length N.g.q
    rw [List.length_map, List.length_append, List.length_map, lL] at this
    exact this
  have gg := N.g.g
  have lk' := N.g.lk
  refine ⟨_, _, _, _, _, _, _, _, _, g, h, H', L', T ++ late, s', rfl, elh, by rw [N.g.d]; exact hs, ⟨by rw [N.g.q]; exact b', by rw [N.g.q]; exact gg, lk', lL', fun x hx => ?_, ?_, fun e he => ?_, ?_⟩⟩
  · rw [N.g.q]
    rcases List.mem_append.mp hx with hx | hx
    · exact N.ts x hx
    · exact (N.la x hx).1
  · rw [List.length_append]
    omega
  · have hq : e.q ∈ L.map LK.q ++ [(s', z)] := by
      rw [← N.g.q]
      exact List.mem_map_of_mem he
    rcases List.mem_append.mp hq with hq | hq
    · exact Nat.le_of_lt (lo _ hq)
    · exact Nat.le_of_eq (congrArg Prod.fst (List.mem_singleton.mp hq))
  · have := I.sb
    omega
end K12
set_option maxRecDepth 100000
set_option maxHeartbeats 2000000
namespace AH
open PySem L2 TL
def Wd.start (H : Hp) : Wd := ⟨fun _ => none, Sto.nil0, fun _ => False, H⟩
end AH
set_option maxRecDepth 100000
set_option maxHeartbeats 2000000
namespace AH
open PySem L2 TL Classical
/-- tables that nobody tells of are left out -/
noncomputable def strip (L : List Addr) (H : Hp) : Hp := fun b => if b ∉ L ∧ ∃ ps, H b = some (.tbl ps) then none else H b
theorem strip_some {L : List Addr} {H : Hp} {b : Addr} {o : HO} (h : strip L H b = some o) : H b = some o := by
  unfold strip at h
  split at h
  · cases h
  · exact h
theorem strip_of {L : List Addr} {H : Hp} {b : Addr} {o : HO} (h : H b = some o) (n : ∀ ps, o ≠ .tbl ps) : strip L H b = some o := by
  unfold strip
  rw [if_neg (fun z => by
    obtain ⟨_, ps, e⟩ := z
    rw [h] at e
    exact n ps (Option.some.inj e))]
  exact h
theorem strip_in {L : List Addr} {H : Hp} {b : Addr} {o : HO} (hb : b ∈ L) (h : H b = some o) : strip L H b = some o := by
  unfold strip
  rw [if_neg (fun z => z.1 hb)]
  exact h
theorem strip_none {L : List Addr} {H : Hp} {b : Addr} (h : H b = none) : strip L H b = none := by
  cases e : strip L H b with
  | none => rfl
  | some o =>
    rw [strip_some e] at h
    cases h
theorem strip_tbl {L : List Addr} {H : Hp} {b : Addr} {ps : Array Value} (h : strip L H b = some (.tbl ps)) : b ∈ L := by
  by_cases q : b ∈ L
  · exact q
  · have e := strip_some h
    unfold strip at h
    rw [if_pos ⟨q, ps, e⟩] at h
    cases h
def spT (L : List Addr) (sp : Sp) : Sp := fun vs H Q _ => ∃ Q0 : V → Prop, (∀ v H', Q0 v → Q v H') ∧ sp vs (strip L H) (fun v _ => Q0 v) E0
theorem fn_strip {P : Program} {w : World} {K : PySem.W.Frag} {mg : Str → Option Value} {base : Heap} {k : Nat} {f : Addr} {fd : FuncData} {ps : List Str} {sp : Sp} (L : List Addr) (F : FnOk P w K mg base CX0 k f fd ps sp) : FnOk P w K mg base CX0 k f fd ps (spT L sp) := by
  refine ⟨fun vs H Q E h => ?_, fun A outer s H args us vs Q E hr e0 hb r h => ?_⟩
  · obtain ⟨Q0, _, h2⟩ := h
    exact F.len _ _ _ _ h2
  obtain ⟨Q0, hq, hsp⟩ := h
  have e1 : Env0 P w K mg base A outer s (strip L H) := {
    frames := e0.frames
    mod := e0.mod
    bs := fun b o e => ⟨(e0.bs b o e).1, strip_none (e0.bs b o e).2⟩
    bsz := e0.bsz
    funs := e0.funs
    frf := fun b hb => strip_none (e0.frf b hb)
    hok := fun b o e => (e0.hok b o (strip_some e)).stay (fun _ _ _ z => z) (fun c z => strip_of z (fun ps q => by cases q)) (fun c xs z => strip_of z (fun ps q => by cases q))
    bare := e0.bare }
  refine codeAny_mono (F.run A outer s (strip L H) args us vs _ _ hr e1 hb r hsp) fun res s' hh => ?_
  cases res with
  | error e => exact (show False from hh).elim
  | ok fl =>
    cases fl with
    | next => exact False.elim hh
    | brk => exact False.elim hh
    | cont => exact False.elim hh
    | ret u =>
      obtain ⟨v, H0', os, bare, un, hok, rv, q⟩ := hh
      have zn : ∀ b, (b ∉ L ∧ ∃ ps, H b = some (.tbl ps)) → strip L H b = none := fun b z => if_pos z
      have zk : ∀ b, (b ∉ L ∧ ∃ ps, H b = some (.tbl ps)) → ∃ ps, H b = some (.tbl ps) ∧ s.heap.get? b = some { cls := .none, data := .fields ps } ∧ s'.heap.get? b = some { cls := .none, data := .fields ps } ∧ H0' b = none := fun b z => by
        obtain ⟨ps, e⟩ := z.2
        have e2 : s.heap.get? b = some { cls := .none, data := .fields ps } := e0.hok b _ e
        refine ⟨ps, e, e2, un.keep b _ e2 (zn b z) (fun hb => ?_) (by simp), un.free b _ e2 (zn b z) (by simp)⟩
        rw [e0.frf b hb] at e
        cases e
      refine ⟨v, fun b => if b ∉ L ∧ ∃ ps, H b = some (.tbl ps) then H b else H0' b, os, bare, ?_, fun b o e => ?_, rv, hq _ _ q⟩
      · refine ⟨fun b o g n => un.keep b o g (strip_none n), fun b o g n => un.slot b o g (strip_none n), fun b o g n hx => ?_, un.there, fun b xs e => ?_, fun b o u e => ?_, fun b ps e => ?_⟩
        · show (if _ then _ else _) = _
          rw [if_neg (fun z => by
            obtain ⟨ps, e⟩ := z.2
            rw [n] at e
            cases e)]
          exact un.free b o g (strip_none n) hx
        · show (if _ then _ else _) = _
          rw [if_neg (fun z => by
            obtain ⟨ps, e2⟩ := z.2
            rw [e] at e2
            cases e2)]
          exact un.tups b xs (strip_of e (fun ps q => by cases q))
        · show (if _ then _ else _) = _
          rw [if_neg (fun z => by
            obtain ⟨ps, e2⟩ := z.2
            rw [e] at e2
            cases e2)]
          exact un.frzs b o u (strip_of e (fun ps q => by cases q))
        · by_cases hb : b ∈ L
          · obtain ⟨more, hm⟩ := un.tbls b ps (strip_in hb e)
            exact ⟨more, by
              show (if _ then _ else _) = _
              rw [if_neg (fun z => z.1 hb)]
              exact hm⟩
          · exact ⟨#[], by
              show (if _ then _ else _) = _
              rw [if_pos ⟨hb, ps, e⟩, e]
              simp⟩
      · have e' : (if b ∉ L ∧ ∃ ps, H b = some (.tbl ps) then H b else H0' b) = some o := e
        by_cases z : b ∉ L ∧ ∃ ps, H b = some (.tbl ps)
        · rw [if_pos z] at e'
          obtain ⟨ps, e2, e3, e4, _⟩ := zk b z
          rw [e2] at e'
          cases e'
          exact e4
        · rw [if_neg z] at e'
          have out : ∀ c u, H0' c = some u → (if c ∉ L ∧ ∃ ps, H c = some (.tbl ps) then H c else H0' c) = some u := fun c u g => by
            rw [if_neg (fun y => by
              obtain ⟨ps, _, _, _, e5⟩ := zk c y
              rw [g] at e5
              cases e5)]
            exact g
          exact (hok b o e').stay (fun _ _ _ z => z) (fun c g => out c _ g) (fun c xs g => out c _ g)
def Wd.startT (tl : List (Nat × Str)) (tm : Nat → Addr) (H : Hp) : Wd := ⟨fun l => tl[l]?.map fun p => tm p.1, Sto.tabs tl, fun _ => False, H⟩
theorem startT_ok {K : PySem.W.Frag} {G : Gx} {H : Hp} {tl : List (Nat × Str)} (hg : G.tl = tl) (hd : (tl.map fun p => G.tm p.1).Nodup) (hT : ∀ p ∈ tl, H (G.tm p.1) = some (.tbl #[])) (hL : ∀ b ps, H b = some (.tbl ps) → b ∈ tl.map fun p => G.tm p.1) (hc : ∀ c, G.cel c = none) : Ok K G (Wd.startT tl G.tm H) := by
  refine ⟨fun l o e => ?_, fun l l' b e e2 => ?_, fun l e => ?_, fun l e => ?_, fun b z => ?_, fun b z => ?_, fun b ps z => ?_, fun b φ z => ?_, fun c o e => by rw [hc c] at e; cases e⟩
  · have e' : tl[l]?.map (fun p => MO.tab p.1 p.2) = some o := e
    cases q : tl[l]? with
    | none => rw [q] at e'; cases e'
    | some p =>
      rw [q] at e'
      cases e'
      have hm : p ∈ tl := List.mem_of_getElem? q
      refine ⟨G.tm p.1, by show tl[l]?.map _ = _; rw [q]; rfl, ⟨rfl, by rw [hg]; exact hm⟩, #[], hT p hm, True.intro, fun pos cv hc => ?_⟩
      have z : codeAmong pos [] = some cv := hc
      simp [codeAmong] at z
  · have e' : tl[l]?.map (fun p => G.tm p.1) = some b := e
    have e2' : tl[l']?.map (fun p => G.tm p.1) = some b := e2
    rw [← List.getElem?_map] at e' e2'
    obtain ⟨h1, h2⟩ := List.getElem?_eq_some_iff.mp e'
    obtain ⟨h3, h4⟩ := List.getElem?_eq_some_iff.mp e2'
    exact (List.getElem_inj hd).mp (h2.trans h4.symm)
  · have e' : tl[l]?.map (fun p => MO.tab p.1 p.2) = none := e
    show tl[l]?.map _ = none
    cases q : tl[l]? with
    | none => rfl
    | some p => rw [q] at e'; cases e'
  · have e' : tl.length ≤ l := e
    show tl[l]?.map _ = none
    rw [List.getElem?_eq_none e']
    rfl
  · exact absurd z id
  · exact absurd z id
  · obtain ⟨p, hp, e⟩ := List.mem_map.mp (hL b ps z)
    obtain ⟨l, hl, q⟩ := List.mem_iff_getElem.mp hp
    refine ⟨l, ?_⟩
    show tl[l]?.map _ = some b
    rw [List.getElem?_eq_getElem hl, q]
    exact congrArg some e
  · exact absurd z id
theorem startT_ex {tl : List (Nat × Str)} {tm : Nat → Addr} {H : Hp} {b : Addr} (h : b ∉ tl.map fun p => tm p.1) : ¬ (Wd.startT tl tm H).Ex b := fun z => by
  rcases z with z | ⟨l, q⟩
  · exact z
  · have q' : tl[l]?.map (fun p => tm p.1) = some b := q
    cases e : tl[l]? with
    | none => rw [e] at q'; cases q'
    | some p =>
      rw [e] at q'
      cases q'
      exact h (List.mem_map.mpr ⟨p, List.mem_of_getElem? e, rfl⟩)
theorem sp_enterT {K : PySem.W.Frag} {G : Gx} {F : Fn} {ns : List Int} {S' : Sto} {a : Addr} {H : Hp} {E : XK} {tl : List (Nat × Str)} (h : F [.scr ns] (Sto.tabs tl) = some (.v (.bl true), S')) (hg : G.tl = tl) (hd : (tl.map fun p => G.tm p.1).Nodup)
    (hT : ∀ p ∈ tl, H (G.tm p.1) = some (.tbl #[])) (hs : SqL K H a (ns.map V.int)) (hc : ∀ c, G.cel c = none := by intro c; rfl) : spT (tl.map fun p => G.tm p.1) (spOf K G 1 F) [.ref a] H (fun v _ => v = .bl true) E := by
  refine ⟨fun v => v = .bl true, fun v H' q => q, ?_⟩
  have T0 : ∀ p ∈ tl, strip (tl.map fun p => G.tm p.1) H (G.tm p.1) = some (.tbl #[]) := fun p hp => strip_in (List.mem_map.mpr ⟨p, hp, rfl⟩) (hT p hp)
  have na : ∀ {o : HO}, H a = some o → (∀ ps, o ≠ .tbl ps) → a ∉ tl.map fun p => G.tm p.1 := fun {o} e n z => by
    obtain ⟨p, hp, q⟩ := List.mem_map.mp z
    rw [← q, hT p hp] at e
    exact n _ (Option.some.inj e).symm
  refine ⟨Wd.startT tl G.tm (strip _ H), [.scr ns], .v (.bl true), S', rfl, rfl, startT_ok hg hd T0 (fun b ps e => strip_tbl e) hc, .cons ?_ .nil, h, ?_⟩
  · rcases hs with (r | ⟨o, r⟩) | r
    · exact .scl (strip_of r (fun ps q => by cases q)) (startT_ex (na r (fun ps q => by cases q)))
    · exact .scr (.inl ⟨o, strip_of r (fun ps q => by cases q), startT_ex (na r (fun ps q => by cases q))⟩)
    · exact .scr (.inr r)
  · intro v w' e f o r
    cases r
    rfl
end AH
set_option maxRecDepth 100000
set_option maxHeartbeats 0
namespace K12
open PySem PySem.Spec PyProof.Rows L2 AH TL
theorem mkT {w : World} {K : PySem.W.Frag} {h : Heap} {mg : Str → Option Value} (X : K.In h) (G : h.Ns mainGlobals mg) (cX : SaysE fa fn ts tf exF w h K) : ∃ T : Tx w K mg, T.a_law = He.ga K "law" := by
  have c := cX.x.d
  obtain ⟨d_BadText___init__, F_BadText___init__⟩ := c.def_ 0 (d := D_BadText___init__) rfl
  obtain ⟨d_BadSign___init__, F_BadSign___init__⟩ := c.def_ 1 (d := D_BadSign___init__) rfl
  obtain ⟨d_is_number, F_is_number⟩ := c.def_ 2 (d := D_is_number) rfl
  obtain ⟨d_need_size, F_need_size⟩ := c.def_ 3 (d := D_need_size) rfl
  obtain ⟨d_need_signs, F_need_signs⟩ := c.def_ 4 (d := D_need_signs) rfl
  obtain ⟨d_changed, F_changed⟩ := c.def_ 5 (d := D_changed) rfl
  obtain ⟨d_count_of, F_count_of⟩ := c.def_ 6 (d := D_count_of) rfl
  obtain ⟨d_Pane___init__, F_Pane___init__⟩ := c.def_ 7 (d := D_Pane___init__) rfl
  obtain ⟨d_Pane_change, F_Pane_change⟩ := c.def_ 8 (d := D_Pane_change) rfl
  obtain ⟨d_Pane_do, F_Pane_do⟩ := c.def_ 9 (d := D_Pane_do) rfl
  obtain ⟨d_Pane_press, F_Pane_press⟩ := c.def_ 10 (d := D_Pane_press) rfl
  obtain ⟨d_Pane_rows, F_Pane_rows⟩ := c.def_ 11 (d := D_Pane_rows) rfl
  obtain ⟨d_Pane_line, F_Pane_line⟩ := c.def_ 12 (d := D_Pane_line) rfl
  obtain ⟨d_Pane_changes, F_Pane_changes⟩ := c.def_ 13 (d := D_Pane_changes) rfl
  obtain ⟨d_Pane_since, F_Pane_since⟩ := c.def_ 14 (d := D_Pane_since) rfl
  obtain ⟨d_Pane_typed, F_Pane_typed⟩ := c.def_ 15 (d := D_Pane_typed) rfl
  obtain ⟨d_sum_of, F_sum_of⟩ := c.def_ 16 (d := D_sum_of) rfl
  obtain ⟨d_packed, F_packed⟩ := c.def_ 17 (d := D_packed) rfl
  obtain ⟨d_number_of, F_number_of⟩ := c.def_ 18 (d := D_number_of) rfl
  obtain ⟨d_unpacked, F_unpacked⟩ := c.def_ 19 (d := D_unpacked) rfl
  obtain ⟨d_Look___init__, F_Look___init__⟩ := c.def_ 20 (d := D_Look___init__) rfl
  obtain ⟨d_Look_press, F_Look_press⟩ := c.def_ 21 (d := D_Look_press) rfl
  obtain ⟨d_Look_press_o, F_Look_press_o⟩ := c.def_ 22 (d := D_Look_press_o) rfl
  obtain ⟨d_Look_letters, F_Look_letters⟩ := c.def_ 23 (d := D_Look_letters) rfl
  obtain ⟨d_Look_take, F_Look_take⟩ := c.def_ 24 (d := D_Look_take) rfl
  obtain ⟨d_Look_hear, F_Look_hear⟩ := c.def_ 25 (d := D_Look_hear) rfl
  obtain ⟨d_Look_waiting, F_Look_waiting⟩ := c.def_ 26 (d := D_Look_waiting) rfl
  obtain ⟨d_Look_over, F_Look_over⟩ := c.def_ 27 (d := D_Look_over) rfl
  obtain ⟨d_Seat___init__, F_Seat___init__⟩ := c.def_ 28 (d := D_Seat___init__) rfl
  obtain ⟨d_Hall___init__, F_Hall___init__⟩ := c.def_ 29 (d := D_Hall___init__) rfl
  obtain ⟨d_Hall_take, F_Hall_take⟩ := c.def_ 30 (d := D_Hall_take) rfl
  obtain ⟨d_Hall_hear, F_Hall_hear⟩ := c.def_ 31 (d := D_Hall_hear) rfl
  obtain ⟨d_Hall_told, F_Hall_told⟩ := c.def_ 32 (d := D_Hall_told) rfl
  obtain ⟨d_Hall_letters, F_Hall_letters⟩ := c.def_ 33 (d := D_Hall_letters) rfl
  obtain ⟨d_Hall_typed, F_Hall_typed⟩ := c.def_ 34 (d := D_Hall_typed) rfl
  obtain ⟨d_Hall_looks, F_Hall_looks⟩ := c.def_ 35 (d := D_Hall_looks) rfl
  obtain ⟨d__law_begun, F__law_begun⟩ := c.def_ 36 (d := D__law_begun) rfl
  obtain ⟨d__law_take, F__law_take⟩ := c.def_ 37 (d := D__law_take) rfl
  obtain ⟨d__law_alike, F__law_alike⟩ := c.def_ 38 (d := D__law_alike) rfl
  obtain ⟨d__law_told, F__law_told⟩ := c.def_ 39 (d := D__law_told) rfl
  obtain ⟨d__law_all, F__law_all⟩ := c.def_ 40 (d := D__law_all) rfl
  obtain ⟨d__law_all_hear, F__law_all_hear⟩ := c.def_ 41 (d := D__law_all_hear) rfl
  obtain ⟨d__law_is_last, F__law_is_last⟩ := c.def_ 42 (d := D__law_is_last) rfl
  obtain ⟨d_law, F_law⟩ := c.def_ 43 (d := D_law) rfl
  exact ⟨{
    gx_HallError := He.glo_ok X G (c.fact 0 (f := .glo "HallError") rfl),
    gx_BadCount := He.glo_ok X G (c.fact 1 (f := .glo "BadCount") rfl),
    gx_BadFields := He.glo_ok X G (c.fact 2 (f := .glo "BadFields") rfl),
    gx_BadLook := He.glo_ok X G (c.fact 3 (f := .glo "BadLook") rfl),
    gx_BadSign := He.glo_ok X G (c.fact 4 (f := .glo "BadSign") rfl),
    gx_BadSize := He.glo_ok X G (c.fact 5 (f := .glo "BadSize") rfl),
    gx_BadText := He.glo_ok X G (c.fact 6 (f := .glo "BadText") rfl),
    gx_NoLook := He.glo_ok X G (c.fact 7 (f := .glo "NoLook") rfl),
    q_NoLook := He.exc_ok (c.fact 8 (f := .exc "NoLook") rfl),
    E := toldB_ok (exF_is cX.ex).1,
    hin := hinB_ok (exF_is cX.ex).2.1,
    o_BadSign := oexB_ok (exF_is cX.ex).2.2.1,
    o_BadText := oexB_ok (exF_is cX.ex).2.2.2,
    k_BACK := He.str_ok X G (c.fact 9 (f := .str "BACK" "<") rfl),
    k_BETWEEN := He.str_ok X G (c.fact 10 (f := .str "BETWEEN" "|") rfl),
    k_BLANK := He.str_ok X G (c.fact 11 (f := .str "BLANK" " ") rfl),
    k_CLEAR := He.str_ok X G (c.fact 12 (f := .str "CLEAR" "clear") rfl),
    k_CLOSE := He.str_ok X G (c.fact 13 (f := .str "CLOSE" "!") rfl),
    k_ENDS := He.str_ok X G (c.fact 14 (f := .str "ENDS" ";") rfl),
    k_FIGURES := He.str_ok X G (c.fact 15 (f := .str "FIGURES" "0123456789") rfl),
    k_LEAST_WIDE := He.int_ok X G (c.fact 16 (f := .int "LEAST_WIDE" 2) rfl),
    k_LETTERS := He.str_ok X G (c.fact 17 (f := .str "LETTERS" "abcdefghijklmnopqrstuvwxyz") rfl),
    k_LINE := He.str_ok X G (c.fact 18 (f := .str "LINE" "line") rfl),
    k_MOST_FIGURES := He.int_ok X G (c.fact 19 (f := .int "MOST_FIGURES" 6) rfl),
    k_MOST_HIGH := He.int_ok X G (c.fact 20 (f := .int "MOST_HIGH" 20) rfl),
    k_MOST_LINE := He.int_ok X G (c.fact 21 (f := .int "MOST_LINE" 30) rfl),
    k_MOST_NAME := He.int_ok X G (c.fact 22 (f := .int "MOST_NAME" 3) rfl),
    k_MOST_PANES := He.int_ok X G (c.fact 23 (f := .int "MOST_PANES" 3) rfl),
    k_MOST_PAST := He.int_ok X G (c.fact 24 (f := .int "MOST_PAST" 30) rfl),
    k_MOST_ROWS := He.int_ok X G (c.fact 25 (f := .int "MOST_ROWS" 40) rfl),
    k_MOST_SESSION := He.int_ok X G (c.fact 26 (f := .int "MOST_SESSION" 100000) rfl),
    k_MOST_TOLD := He.int_ok X G (c.fact 27 (f := .int "MOST_TOLD" 8) rfl),
    k_MOST_TYPED := He.int_ok X G (c.fact 28 (f := .int "MOST_TYPED" 100) rfl),
    k_MOST_WIDE := He.int_ok X G (c.fact 29 (f := .int "MOST_WIDE" 40) rfl),
    k_NONE := He.str_ok X G (c.fact 30 (f := .str "NONE" "?") rfl),
    k_POINT := He.str_ok X G (c.fact 31 (f := .str "POINT" ".") rfl),
    k_PROMPT := He.str_ok X G (c.fact 32 (f := .str "PROMPT" "> ") rfl),
    k_RING := He.int_ok X G (c.fact 33 (f := .int "RING" 9973) rfl),
    k_ROW := He.str_ok X G (c.fact 34 (f := .str "ROW" "row") rfl),
    k_SIGNS := He.str_ok X G (c.fact 35 (f := .str "SIGNS" "abcdefghijklmnopqrstuvwxyz0123456789 >?<;") rfl),
    n_ValueError := He.free_ok X G (c.fact 36 (f := .free "ValueError") rfl),
    n_bool := He.free_ok X G (c.fact 37 (f := .free "bool") rfl),
    n_enumerate := He.free_ok X G (c.fact 38 (f := .free "enumerate") rfl),
    n_int := He.free_ok X G (c.fact 39 (f := .free "int") rfl),
    n_isinstance := He.free_ok X G (c.fact 40 (f := .free "isinstance") rfl),
    n_len := He.free_ok X G (c.fact 41 (f := .free "len") rfl),
    n_list := He.free_ok X G (c.fact 42 (f := .free "list") rfl),
    n_range := He.free_ok X G (c.fact 43 (f := .free "range") rfl),
    n_sorted := He.free_ok X G (c.fact 44 (f := .free "sorted") rfl),
    n_str := He.free_ok X G (c.fact 45 (f := .free "str") rfl),
    n_tuple := He.free_ok X G (c.fact 46 (f := .free "tuple") rfl),
    c_Pane := He.ga K "Pane",
    gc_Pane := He.glo_ok X G (c.fact 47 (f := .glo "Pane") rfl),
    cl_Pane := He.cls_ok (c.fact 48 (f := .cls "Pane") rfl),
    na_Pane_kept := He.noat_ok (c.fact 49 (f := .noat "Pane" "kept") rfl),
    na_Pane_text := He.noat_ok (c.fact 50 (f := .noat "Pane" "text") rfl),
    na_Pane_work := He.noat_ok (c.fact 51 (f := .noat "Pane" "work") rfl),
    na_Pane_many := He.noat_ok (c.fact 52 (f := .noat "Pane" "many") rfl),
    na_Pane_past := He.noat_ok (c.fact 53 (f := .noat "Pane" "past") rfl),
    na_Pane_notes := He.noat_ok (c.fact 54 (f := .noat "Pane" "notes") rfl),
    a_Pane___init__ := He.ma K (He.ga K "Pane") "__init__",
    mk_Pane := He.mkr_ok (c.fact 55 (f := .mkr "Pane") rfl),
    c_Look := He.ga K "Look",
    gc_Look := He.glo_ok X G (c.fact 56 (f := .glo "Look") rfl),
    cl_Look := He.cls_ok (c.fact 57 (f := .cls "Look") rfl),
    na_Look_head := He.noat_ok (c.fact 58 (f := .noat "Look" "head") rfl),
    na_Look_size := He.noat_ok (c.fact 59 (f := .noat "Look" "size") rfl),
    na_Look_kept := He.noat_ok (c.fact 60 (f := .noat "Look" "kept") rfl),
    na_Look_text := He.noat_ok (c.fact 61 (f := .noat "Look" "text") rfl),
    na_Look_version := He.noat_ok (c.fact 62 (f := .noat "Look" "version") rfl),
    na_Look_first := He.noat_ok (c.fact 63 (f := .noat "Look" "first") rfl),
    na_Look_signs := He.noat_ok (c.fact 64 (f := .noat "Look" "signs") rfl),
    na_Look_gone := He.noat_ok (c.fact 65 (f := .noat "Look" "gone") rfl),
    na_Look_past := He.noat_ok (c.fact 66 (f := .noat "Look" "past") rfl),
    a_Look___init__ := He.ma K (He.ga K "Look") "__init__",
    mk_Look := He.mkr_ok (c.fact 67 (f := .mkr "Look") rfl),
    c_Seat := He.ga K "Seat",
    gc_Seat := He.glo_ok X G (c.fact 68 (f := .glo "Seat") rfl),
    cl_Seat := He.cls_ok (c.fact 69 (f := .cls "Seat") rfl),
    na_Seat_session := He.noat_ok (c.fact 70 (f := .noat "Seat" "session") rfl),
    na_Seat_pane := He.noat_ok (c.fact 71 (f := .noat "Seat" "pane") rfl),
    na_Seat_done := He.noat_ok (c.fact 72 (f := .noat "Seat" "done") rfl),
    na_Seat_knows := He.noat_ok (c.fact 73 (f := .noat "Seat" "knows") rfl),
    na_Seat_here := He.noat_ok (c.fact 74 (f := .noat "Seat" "here") rfl),
    a_Seat___init__ := He.ma K (He.ga K "Seat") "__init__",
    mk_Seat := He.mkr_ok (c.fact 75 (f := .mkr "Seat") rfl),
    c_Hall := He.ga K "Hall",
    gc_Hall := He.glo_ok X G (c.fact 76 (f := .glo "Hall") rfl),
    cl_Hall := He.cls_ok (c.fact 77 (f := .cls "Hall") rfl),
    na_Hall_places := He.noat_ok (c.fact 78 (f := .noat "Hall" "places") rfl),
    na_Hall_seats := He.noat_ok (c.fact 79 (f := .noat "Hall" "seats") rfl),
    a_Hall___init__ := He.ma K (He.ga K "Hall") "__init__",
    mk_Hall := He.mkr_ok (c.fact 80 (f := .mkr "Hall") rfl),
    d_BadText___init__ := d_BadText___init__,
    F_BadText___init__ := F_BadText___init__,
    d_BadSign___init__ := d_BadSign___init__,
    F_BadSign___init__ := F_BadSign___init__,
    a_is_number := He.ga K "is_number",
    d_is_number := d_is_number,
    F_is_number := F_is_number,
    g_is_number := He.glo_ok X G (c.fact 81 (f := .glo "is_number") rfl),
    a_need_size := He.ga K "need_size",
    d_need_size := d_need_size,
    F_need_size := F_need_size,
    g_need_size := He.glo_ok X G (c.fact 82 (f := .glo "need_size") rfl),
    a_need_signs := He.ga K "need_signs",
    d_need_signs := d_need_signs,
    F_need_signs := F_need_signs,
    g_need_signs := He.glo_ok X G (c.fact 83 (f := .glo "need_signs") rfl),
    a_changed := He.ga K "changed",
    d_changed := d_changed,
    F_changed := F_changed,
    g_changed := He.glo_ok X G (c.fact 84 (f := .glo "changed") rfl),
    a_count_of := He.ga K "count_of",
    d_count_of := d_count_of,
    F_count_of := F_count_of,
    g_count_of := He.glo_ok X G (c.fact 85 (f := .glo "count_of") rfl),
    d_Pane___init__ := d_Pane___init__,
    F_Pane___init__ := F_Pane___init__,
    a_Pane_change := He.ma K (He.ga K "Pane") "change",
    d_Pane_change := d_Pane_change,
    F_Pane_change := F_Pane_change,
    me_Pane_change := He.meth_ok (c.fact 86 (f := .meth "Pane" "change") rfl),
    a_Pane_do := He.ma K (He.ga K "Pane") "do",
    d_Pane_do := d_Pane_do,
    F_Pane_do := F_Pane_do,
    me_Pane_do := He.meth_ok (c.fact 87 (f := .meth "Pane" "do") rfl),
    a_Pane_press := He.ma K (He.ga K "Pane") "press",
    d_Pane_press := d_Pane_press,
    F_Pane_press := F_Pane_press,
    me_Pane_press := He.meth_ok (c.fact 88 (f := .meth "Pane" "press") rfl),
    a_Pane_rows := He.ma K (He.ga K "Pane") "rows",
    d_Pane_rows := d_Pane_rows,
    F_Pane_rows := F_Pane_rows,
    me_Pane_rows := He.meth_ok (c.fact 89 (f := .meth "Pane" "rows") rfl),
    a_Pane_line := He.ma K (He.ga K "Pane") "line",
    d_Pane_line := d_Pane_line,
    F_Pane_line := F_Pane_line,
    me_Pane_line := He.meth_ok (c.fact 90 (f := .meth "Pane" "line") rfl),
    a_Pane_changes := He.ma K (He.ga K "Pane") "changes",
    d_Pane_changes := d_Pane_changes,
    F_Pane_changes := F_Pane_changes,
    me_Pane_changes := He.meth_ok (c.fact 91 (f := .meth "Pane" "changes") rfl),
    a_Pane_since := He.ma K (He.ga K "Pane") "since",
    d_Pane_since := d_Pane_since,
    F_Pane_since := F_Pane_since,
    me_Pane_since := He.meth_ok (c.fact 92 (f := .meth "Pane" "since") rfl),
    a_Pane_typed := He.ma K (He.ga K "Pane") "typed",
    d_Pane_typed := d_Pane_typed,
    F_Pane_typed := F_Pane_typed,
    me_Pane_typed := He.meth_ok (c.fact 93 (f := .meth "Pane" "typed") rfl),
    a_sum_of := He.ga K "sum_of",
    d_sum_of := d_sum_of,
    F_sum_of := F_sum_of,
    g_sum_of := He.glo_ok X G (c.fact 94 (f := .glo "sum_of") rfl),
    a_packed := He.ga K "packed",
    d_packed := d_packed,
    F_packed := F_packed,
    g_packed := He.glo_ok X G (c.fact 95 (f := .glo "packed") rfl),
    a_number_of := He.ga K "number_of",
    d_number_of := d_number_of,
    F_number_of := F_number_of,
    g_number_of := He.glo_ok X G (c.fact 96 (f := .glo "number_of") rfl),
    a_unpacked := He.ga K "unpacked",
    d_unpacked := d_unpacked,
    F_unpacked := F_unpacked,
    g_unpacked := He.glo_ok X G (c.fact 97 (f := .glo "unpacked") rfl),
    d_Look___init__ := d_Look___init__,
    F_Look___init__ := F_Look___init__,
    a_Look_press := He.ma K (He.ga K "Look") "press",
    d_Look_press := d_Look_press,
    F_Look_press := F_Look_press,
    me_Look_press := He.meth_ok (c.fact 98 (f := .meth "Look" "press") rfl),
    a_Look_press_o := He.ma K (He.ga K "Look") "press",
    d_Look_press_o := d_Look_press_o,
    F_Look_press_o := F_Look_press_o,
    me_Look_press_o := He.meth_ok (c.fact 98 (f := .meth "Look" "press") rfl),
    a_Look_letters := He.ma K (He.ga K "Look") "letters",
    d_Look_letters := d_Look_letters,
    F_Look_letters := F_Look_letters,
    me_Look_letters := He.meth_ok (c.fact 99 (f := .meth "Look" "letters") rfl),
    a_Look_take := He.ma K (He.ga K "Look") "take",
    d_Look_take := d_Look_take,
    F_Look_take := F_Look_take,
    me_Look_take := He.meth_ok (c.fact 100 (f := .meth "Look" "take") rfl),
    a_Look_hear := He.ma K (He.ga K "Look") "hear",
    d_Look_hear := d_Look_hear,
    F_Look_hear := F_Look_hear,
    me_Look_hear := He.meth_ok (c.fact 101 (f := .meth "Look" "hear") rfl),
    a_Look_waiting := He.ma K (He.ga K "Look") "waiting",
    d_Look_waiting := d_Look_waiting,
    F_Look_waiting := F_Look_waiting,
    me_Look_waiting := He.meth_ok (c.fact 102 (f := .meth "Look" "waiting") rfl),
    a_Look_over := He.ma K (He.ga K "Look") "over",
    d_Look_over := d_Look_over,
    F_Look_over := F_Look_over,
    me_Look_over := He.meth_ok (c.fact 103 (f := .meth "Look" "over") rfl),
    d_Seat___init__ := d_Seat___init__,
    F_Seat___init__ := F_Seat___init__,
    d_Hall___init__ := d_Hall___init__,
    F_Hall___init__ := F_Hall___init__,
    a_Hall_take := He.ma K (He.ga K "Hall") "take",
    d_Hall_take := d_Hall_take,
    F_Hall_take := F_Hall_take,
    me_Hall_take := He.meth_ok (c.fact 104 (f := .meth "Hall" "take") rfl),
    a_Hall_hear := He.ma K (He.ga K "Hall") "hear",
    d_Hall_hear := d_Hall_hear,
    F_Hall_hear := F_Hall_hear,
    me_Hall_hear := He.meth_ok (c.fact 105 (f := .meth "Hall" "hear") rfl),
    a_Hall_told := He.ma K (He.ga K "Hall") "told",
    d_Hall_told := d_Hall_told,
    F_Hall_told := F_Hall_told,
    me_Hall_told := He.meth_ok (c.fact 106 (f := .meth "Hall" "told") rfl),
    a_Hall_letters := He.ma K (He.ga K "Hall") "letters",
    d_Hall_letters := d_Hall_letters,
    F_Hall_letters := F_Hall_letters,
    me_Hall_letters := He.meth_ok (c.fact 107 (f := .meth "Hall" "letters") rfl),
    a_Hall_typed := He.ma K (He.ga K "Hall") "typed",
    d_Hall_typed := d_Hall_typed,
    F_Hall_typed := F_Hall_typed,
    me_Hall_typed := He.meth_ok (c.fact 108 (f := .meth "Hall" "typed") rfl),
    a_Hall_looks := He.ma K (He.ga K "Hall") "looks",
    d_Hall_looks := d_Hall_looks,
    F_Hall_looks := F_Hall_looks,
    me_Hall_looks := He.meth_ok (c.fact 109 (f := .meth "Hall" "looks") rfl),
    a__law_begun := He.ga K "_law_begun",
    d__law_begun := d__law_begun,
    F__law_begun := F__law_begun,
    g__law_begun := He.glo_ok X G (c.fact 110 (f := .glo "_law_begun") rfl),
    a__law_take := He.ga K "_law_take",
    d__law_take := d__law_take,
    F__law_take := F__law_take,
    g__law_take := He.glo_ok X G (c.fact 111 (f := .glo "_law_take") rfl),
    a__law_alike := He.ga K "_law_alike",
    d__law_alike := d__law_alike,
    F__law_alike := F__law_alike,
    g__law_alike := He.glo_ok X G (c.fact 112 (f := .glo "_law_alike") rfl),
    a__law_told := He.ga K "_law_told",
    d__law_told := d__law_told,
    F__law_told := F__law_told,
    g__law_told := He.glo_ok X G (c.fact 113 (f := .glo "_law_told") rfl),
    a__law_all := He.ga K "_law_all",
    d__law_all := d__law_all,
    F__law_all := F__law_all,
    g__law_all := He.glo_ok X G (c.fact 114 (f := .glo "_law_all") rfl),
    a__law_all_hear := He.ga K "_law_all_hear",
    d__law_all_hear := d__law_all_hear,
    F__law_all_hear := F__law_all_hear,
    g__law_all_hear := He.glo_ok X G (c.fact 115 (f := .glo "_law_all_hear") rfl),
    e__law_is_last := rfl,
    a__law_is_last := He.ga K "_law_is_last",
    d__law_is_last := d__law_is_last,
    F__law_is_last := F__law_is_last,
    g__law_is_last := He.glo_ok X G (c.fact 116 (f := .glo "_law_is_last") rfl),
    a_law := He.ga K "law",
    d_law := d_law,
    F_law := F_law,
    g_law := He.glo_ok X G (c.fact 117 (f := .glo "law") rfl) }, rfl⟩
end K12
open PySem PySem.W PySem.Calls PyProof.Rows
theorem PySem.Challenge.cw_attachhall_k12_sessions_of_one_name_holds : PySem.Challenge.rw_attachhall_k12_sessions_of_one_name.Holds := by
  w_on; o_law
  refine HandSHeadRun.head_any (r := OpenLaw.row PySem.Challenge.rw_attachhall_k12_sessions_of_one_name) (q := view (OpenLaw.row PySem.Challenge.rw_attachhall_k12_sessions_of_one_name).prog [63]) (H := K12.hk) (ob := K12.ob) (M := 12000) (loose := K12.nms) (d := HandSHeadRun.topDef (OpenLaw.row PySem.Challenge.rw_attachhall_k12_sessions_of_one_name).prog 63) (kwd := []) K12.ob_eq
    (by kernel_rfl) (fun s => by kernel_rfl) K12.run (by kernel_rfl) (by kernel_rfl) (by kernel_rfl) (by rfl) (by first | assumption | decide +kernel) (by decide +kernel) ⟨rfl, rfl, rfl, rfl, rfl, by decide +kernel⟩ ?hw ?hc
  case hw => w_witness2
  case hc =>
    refine AH.walk_ofTE (l := PySem.Challenge.rw_attachhall_k12_sessions_of_one_name) (n := 63) (k := 29) (x := "_law_script") rfl (by decide) (by kernel_rfl) ⟨rfl, by decide, by decide⟩ ?F
    intro w mg fa h Y G hmg0
    obtain ⟨K, KX, c⟩ := Y
    have hmg : mg ("law" : PySem.Str) = some (.ref fa) := by
      have e : (HandSHeadRun.topDef (OpenLaw.row PySem.Challenge.rw_attachhall_k12_sessions_of_one_name).prog 63).name = ("law" : PySem.Str) := by kernel_rfl
      rw [← e]
      exact hmg0
    obtain ⟨T, hT⟩ := K12.mkT (w := w) KX G c
    have e : fa = T.a_law := by
      have q := hmg.symm.trans T.g_law
      cases q
      rfl
    subst e
    have hcs : (K12.tl.map fun p => (K12.gx T).tm p.1) = K12.tf.map fun p => He.tabOf K (He.codeOf K p) := by rfl
    refine ⟨K, KX, T.d_law, K12.tf.map (fun p => (He.codeOf K p, He.tabOf K (He.codeOf K p))), AH.spT (K12.tl.map fun p => (K12.gx T).tm p.1) (AH.spOf K (K12.gx T) 1 K12.F_law), fun q hq => ?h1, fun q hq => ?h2, fun q hq => ?h3, fun s v => T.F_law.bindsA (ps := ["_law_script"]) (fun _ _ _ _ _ _ us hl => match us, hl with | [_], _ => rfl) s [v] rfl, fun H a ns hl hb hH hS => ?h4, fun base kb nb hTB => AH.fn_strip _ (K12.ok_law T (hTB _ (List.mem_map.mpr ⟨("_law_is_last", none), by simp [K12.tf], rfl⟩)))⟩
    case h1 =>
      obtain ⟨p, hp, rfl⟩ := List.mem_map.mp hq
      exact c.em p hp
    case h2 =>
      obtain ⟨p, hp, rfl⟩ := List.mem_map.mp hq
      exact c.no p hp
    case h3 =>
      obtain ⟨p, hp, rfl⟩ := List.mem_map.mp hq
      exact PySem.W.codeHd_of_K KX (c.cd p hp)
    case h4 =>
      obtain ⟨S', hp⟩ := K12.law_true ns hl
      refine AH.sp_enterT hp rfl (by rw [hcs]; exact K12.exF_nd c.ex) (fun q hq => ?_) hS
      have hm : (K12.gx T).tm q.1 ∈ K12.tf.map fun p => He.tabOf K (He.codeOf K p) := by
        rw [← hcs]
        exact List.mem_map.mpr ⟨q, hq, rfl⟩
      obtain ⟨p, hp2, e2⟩ := List.mem_map.mp hm
      rw [← e2]
      exact hH (He.codeOf K p, He.tabOf K (He.codeOf K p)) (List.mem_map.mpr ⟨p, hp2, rfl⟩)
